import PyProof.Rows.All
import Wide.All
import OpenK.AllK
import Wide.FinOn
import PySem.Challenge.RW_wishgames_k52_whole_talks_as_games
import KE.KStateDown
import HandS.Ends
import HandS.More
import HandS.Words
import HandS.WordsExc
import HandS.Head0
import HandS.Head1
import HandS.Head2
import HandS.HeadEnd
import HandS.HeadHook1
import HandS.HeadHook2
import HandS.Codes
import HandS.ForMost
import HandS.Flow
import HandS.Deep
import HandS.TupAny
import HandS.TupMul
import HandS.Wide
import KE.SortData
import KE.SortLaws
import KE.DataCmp
import KE.DatumOrd
import HandS.Dict
import HandS.Conv
import HandS.TupLen
import HandS.Style
import KE.DataFind
import KE.DataMinMax
import KE.KIndexOf
import HandS.Walk
import HandS.Iter
import HandS.Zip
import KE.GoesZip
import KE.GoesMore
import HandS.SetFor
import HandS.DictComp
import HandS.IsInst
import HandS.Head3
import HandS.Defaults
set_option Elab.async false
set_option linter.all false
set_option maxRecDepth 100000
/-! Wg: a small language of data, its weakest preconditions. Plain Lean. -/
namespace Wg
/-- data: what Python's values are worth -/
inductive D where
  | non
  | bl (b : Bool)
  | int (i : Int)
  | str (s : List Nat)
  | tup (l : List D)
  | lst (l : List D)
  | dct (l : List (D × D))
  | fn (f : Nat) (caps : List D)
  | pool
  | scr (k : Nat) (ns : List Int)
  deriving Inhabited
/-- the most items that a list may have here -/
def LB : Nat := 1000000
mutual
/-- no dict, no function, no pool in it; depth at most n -/
def D.pl : Nat → D → Bool
  | _, .non => true
  | _, .bl _ => true
  | _, .int _ => true
  | _, .str s => s.all fun c => decide (c < 1114112)
  | n + 1, .tup l => D.pls n l
  | n + 1, .lst l => D.pls n l
  | _, _ => false
def D.pls : Nat → List D → Bool
  | _, [] => true
  | n, x :: xs => D.pl n x && D.pls n xs
end
mutual
/-- == -/
def D.eqv : D → D → Bool
  | .non, .non => true
  | .bl a, .bl b => a == b
  | .bl a, .int j => (if a then 1 else 0) == j
  | .int i, .bl b => i == (if b then 1 else 0)
  | .int i, .int j => i == j
  | .str x, .str y => x == y
  | .lst xs, .lst ys => D.eqvs xs ys
  | .tup xs, .tup ys => D.eqvs xs ys
  | _, _ => false
def D.eqvs : List D → List D → Bool
  | [], [] => true
  | x :: xs, y :: ys => D.eqv x y && D.eqvs xs ys
  | _, _ => false
end
/-- the order of two texts -/
def ltNs : List Nat → List Nat → Bool
  | [], [] => false
  | [], _ :: _ => true
  | _ :: _, [] => false
  | x :: xs, y :: ys => if x = y then ltNs xs ys else decide (x < y)
mutual
/-- two data whose order is known: place by place of one kind -/
def D.alike : D → D → Bool
  | .non, .non => true
  | .bl _, .bl _ => true
  | .int _, .int _ => true
  | .str _, .str _ => true
  | .lst xs, .lst ys => D.alikes xs ys
  | .tup xs, .tup ys => D.alikes xs ys
  | _, _ => false
def D.alikes : List D → List D → Bool
  | x :: xs, y :: ys => D.alike x y && D.alikes xs ys
  | [], _ => true
  | _ :: _, [] => true
end
mutual
/-- < -/
def D.lt : D → D → Bool
  | .int i, .int j => decide (i < j)
  | .bl a, .bl b => !a && b
  | .str x, .str y => ltNs x y
  | .lst xs, .lst ys => D.lts xs ys
  | .tup xs, .tup ys => D.lts xs ys
  | _, _ => false
def D.lts : List D → List D → Bool
  | [], [] => false
  | [], _ :: _ => true
  | _ :: _, [] => false
  | x :: xs, y :: ys => if D.eqv x y then D.lts xs ys else D.lt x y
end
mutual
/-- made of tuples and plain things alone -/
def D.imm : D → Bool
  | .tup l => D.imms l
  | .lst _ => false
  | .dct _ => false
  | .pool => false
  | .fn _ _ => false
  | .scr _ _ => false
  | _ => true
def D.imms : List D → Bool
  | [] => true
  | x :: xs => D.imm x && D.imms xs
end
/-- what a name's slot holds: nothing; a value that may be known elsewhere, too; a list or a dict of its own, which it may change -/
inductive Slot where
  | un
  | sh (d : D)
  | ol (l : List D)
  | od (l : List (D × D))
  deriving Inhabited
abbrev Env := List Slot
def Slot.val : Slot → D
  | .un => .non
  | .sh d => d
  | .ol l => .lst l
  | .od l => .dct l
/-- an operand: a name, or a value -/
inductive Opd where
  | r (i : Nat)
  | v (d : D)
def peek (ρ : Env) (i : Nat) (Q : D → Prop) : Prop :=
  match ρ[i]? with
  | some (.sh d) => Q d
  | some (.ol l) => Q (.lst l)
  | some (.od l) => Q (.dct l)
  | _ => False
def Opd.get (ρ : Env) (o : Opd) (Q : D → Prop) : Prop :=
  match o with
  | .r i => peek ρ i Q
  | .v d => Q d
/-- the name's list or dict may be known elsewhere from now on -/
def freeze (ρ : Env) (i : Nat) : Env :=
  match ρ[i]? with
  | some (.ol l) => ρ.set i (.sh (.lst l))
  | some (.od l) => ρ.set i (.sh (.dct l))
  | _ => ρ
def freezes (ρ : Env) : List Opd → Env
  | [] => ρ
  | .r i :: os => freezes (freeze ρ i) os
  | .v _ :: os => freezes ρ os
def gets (ρ : Env) : List Opd → (List D → Prop) → Prop
  | [], Q => Q []
  | o :: os, Q => o.get ρ fun d => gets ρ os fun ds => Q (d :: ds)
inductive BOp where
  | add | sub | mul | fdiv | mod
  deriving DecidableEq, Inhabited
inductive COp where
  | eq | ne | lt | le | gt | ge | isN | notN | inn | nin
  deriving DecidableEq, Inhabited
/-- built-in functions -/
inductive Blt where
  | len | tuple | list | sorted | sortedSet | lenSet | min | max | sum | abs | int | all | any | range | zip | repr | str
  | isInt | isBool | isStr | isTup | isList
  deriving DecidableEq, Inhabited
/-- methods -/
inductive Mth where
  | append | extend | pop | update | index | count | get | split | join
  deriving DecidableEq, Inhabited
mutual
inductive Ex where
  | lit (d : D)
  | var (i : Nat)
  | glb (g : Nat)
  | bin (o : BOp) (a b : Ex)
  | neg (a : Ex)
  | not (a : Ex)
  | cmp (o : COp) (a b : Ex)
  | chn (o1 o2 : COp) (a b c : Ex)
  | and (a b : Ex)
  | or (a b : Ex)
  | ife (c a b : Ex)
  | tup (es : Exs)
  | lst (es : Exs)
  | dct (kvs : Kvs)
  | idx (a i : Ex)
  | slc (a lo hi : Ex)
  | rev (a : Ex)
  | noPart
  | call (f : Nat) (es : Exs)
  | callv (f : Ex) (es : Exs)
  | blt (b : Blt) (es : Exs)
  | rng (t : Bool) (es : Exs)
  | mth (m : Mth) (o : Ex) (es : Exs)
  | lc (own : List Nat) (elt : Ex) (t : Tg) (it : It) (c : Exs)
  | dc (own : List Nat) (k v : Ex) (t : Tg) (it : It) (c : Exs)
  | lam (id : Nat) (caps : List Nat)
  | minKey (most : Bool) (e : Ex) (own : Nat) (key : Ex)
inductive Exs where
  | n
  | c (e : Ex) (es : Exs)
inductive Kvs where
  | n
  | c (k v : Ex) (kvs : Kvs)
inductive It where
  | e (e : Ex)
  | range (es : Exs)
  | zip (es : Exs)
inductive Tg where
  | nm (i : Nat)
  | tp (ts : Tgs)
  | sb (k : Nat) (i : Ex)
inductive Tgs where
  | n
  | c (t : Tg) (ts : Tgs)
end
instance : Inhabited Ex := ⟨.noPart⟩
def Ex.isVar : Ex → Bool
  | .var _ => true
  | _ => false
def Exs.len : Exs → Nat
  | .n => 0
  | .c _ es => es.len + 1
def Tgs.len : Tgs → Nat
  | .n => 0
  | .c _ ts => ts.len + 1
mutual
inductive St where
  | asg (t : Tg) (e : Ex)
  | par2d (i j : Nat)
  | aug (i : Nat) (o : BOp) (e : Ex)
  | augS (k : Nat) (i : Ex) (o : BOp) (e : Ex)
  | exp (e : Ex)
  | ret (e : Ex)
  | iff (c : Ex) (a b : Sts)
  | whl (c : Ex) (b : Sts)
  | for (t : Tg) (it : It) (b : Sts)
  | brk
  | cnt
  | rse
inductive Sts where
  | n
  | c (s : St) (ss : Sts)
end
instance : Inhabited Sts := ⟨.n⟩
/-! ### operations by values -/
/-- a * 's size is no matter below this -/
def okMul (i j : Int) : Prop := (i.natAbs < 2 ^ 64 ∨ j.natAbs < 2 ^ 64) ∨ (i.natAbs < 2 ^ 100000 ∧ j.natAbs < 2 ^ 100000)
def okDiv (j : Int) : Prop := j ≠ 0 ∧ (j.natAbs < 2 ^ 64 ∨ j.natAbs < 2 ^ 8900)
def binV (o : BOp) (x y : D) (Q : Slot → Prop) : Prop :=
  match o, x, y with
  | .add, .int i, .int j => Q (.sh (.int (i + j)))
  | .add, .tup a, .tup b => a.length + b.length ≤ LB ∧ Q (.sh (.tup (a ++ b)))
  | .add, .lst a, .lst b => a.length + b.length ≤ LB ∧ Q (.ol (a ++ b))
  | .add, .str a, .str b => a.length + b.length ≤ LB ∧ Q (.sh (.str (a ++ b)))
  | .sub, .int i, .int j => Q (.sh (.int (i - j)))
  | .mul, .int i, .int j => okMul i j ∧ Q (.sh (.int (i * j)))
  | .mul, .tup a, .int j => a.length ≤ 1000 ∧ -1000 ≤ j ∧ j ≤ 1000 ∧ Q (.sh (.tup (List.replicate j.toNat a).flatten))
  | .mul, .lst a, .int j => a.length ≤ 1000 ∧ -1000 ≤ j ∧ j ≤ 1000 ∧ Q (.ol (List.replicate j.toNat a).flatten)
  | .fdiv, .int i, .int j => okDiv j ∧ Q (.sh (.int (i.fdiv j)))
  | .mod, .int i, .int j => j ≠ 0 ∧ Q (.sh (.int (i.fmod j)))
  | _, _, _ => False
def lookD (kvs : List (D × D)) (k : D) : Option D :=
  match kvs with
  | [] => none
  | p :: ps => if D.eqv p.1 k then some p.2 else lookD ps k
/-- d[k] = v -/
def putD (kvs : List (D × D)) (k v : D) : List (D × D) :=
  if (lookD kvs k).isSome then kvs.map fun p => if D.eqv p.1 k then (p.1, v) else p else kvs ++ [(k, v)]
/-- a dict's keys: whole numbers and texts, or tuples -/
def D.leaf : D → Bool
  | .int _ => true
  | .str _ => true
  | _ => false
mutual
def D.nk : Nat → D → Bool
  | _, .int _ => true
  | _, .non => true
  | _, .str _ => true
  | n + 1, .tup l => D.nks n l
  | _, _ => false
def D.nks : Nat → List D → Bool
  | _, [] => true
  | n, x :: xs => D.nk n x && D.nks n xs
end
def D.isTup : D → Bool
  | .tup _ => true
  | _ => false
/-- keys of one dict, of one kind -/
def keysOk (kvs : List (D × D)) (k : D) : Bool := D.leaf k && kvs.all fun p => D.leaf p.1
def isNon : D → Bool
  | .non => true
  | _ => false
def cmpV (o : COp) (x y : D) (Q : Bool → Prop) : Prop :=
  match o with
  | .eq => D.pl 9 x = true ∧ D.pl 9 y = true ∧ Q (D.eqv x y)
  | .ne => D.pl 9 x = true ∧ D.pl 9 y = true ∧ Q (!D.eqv x y)
  | .lt => D.pl 9 x = true ∧ D.pl 9 y = true ∧ D.alike x y = true ∧ x.eqv .non = false ∧ Q (D.lt x y)
  | .gt => D.pl 9 x = true ∧ D.pl 9 y = true ∧ D.alike x y = true ∧ x.eqv .non = false ∧ Q (D.lt y x)
  | .le => D.pl 9 x = true ∧ D.pl 9 y = true ∧ D.alike x y = true ∧ x.eqv .non = false ∧ Q (!D.lt y x)
  | .ge => D.pl 9 x = true ∧ D.pl 9 y = true ∧ D.alike x y = true ∧ x.eqv .non = false ∧ Q (!D.lt x y)
  | .isN => match y with | .non => Q (isNon x) | _ => False
  | .notN => match y with | .non => Q (!isNon x) | _ => False
  | .inn => match y with
    | .tup l => D.pl 9 x = true ∧ D.pls 9 l = true ∧ Q (l.any fun z => D.eqv z x)
    | .lst l => D.pl 9 x = true ∧ D.pls 9 l = true ∧ Q (l.any fun z => D.eqv z x)
    | .dct kvs => keysOk kvs x = true ∧ Q (lookD kvs x).isSome
    | _ => False
  | .nin => match y with
    | .tup l => D.pl 9 x = true ∧ D.pls 9 l = true ∧ Q (!l.any fun z => D.eqv z x)
    | .lst l => D.pl 9 x = true ∧ D.pls 9 l = true ∧ Q (!l.any fun z => D.eqv z x)
    | .dct kvs => keysOk kvs x = true ∧ Q (!(lookD kvs x).isSome)
    | _ => False
/-- the place of an index, from the end if it is negative -/
def ixOf (n : Nat) (i : Int) : Option Nat := if 0 ≤ i then (if i < n then some i.toNat else none) else if -(n : Int) ≤ i then some (i + n).toNat else none
def idxL (l : List D) (i : Int) (Q : D → Prop) : Prop := match (ixOf l.length i).bind (l[·]?) with | some d => Q d | none => False
theorem ixOf_nat {n k : Nat} (h : k < n) : ixOf n (k : Int) = some k := by
  unfold ixOf
  rw [if_pos (Int.natCast_nonneg k), if_pos (by omega)]
  rfl
/-- an item, by its place -/
theorem idxL_nat {l : List D} {k : Nat} {d : D} {Q : D → Prop} (h : l[k]? = some d) (q : Q d) : idxL l (k : Int) Q := by
  have hk : k < l.length := (List.getElem?_eq_some_iff.mp h).1
  unfold idxL
  rw [ixOf_nat hk]
  simp only [Option.bind_some, h]
  exact q
theorem idxL_int {l : List D} {i : Int} {d : D} {Q : D → Prop} (hi : 0 ≤ i) (h : l[i.toNat]? = some d) (q : Q d) : idxL l i Q := by
  have e : ((i.toNat : Nat) : Int) = i := by omega
  rw [← e]
  exact idxL_nat h q
theorem idxL_last {l : List D} {d : D} {Q : D → Prop} (q : Q d) : idxL (l ++ [d]) (-1) Q := by
  unfold idxL ixOf
  have e : ((l ++ [d]).length : Int) = (l.length : Int) + 1 := by simp
  rw [if_neg (by decide), if_pos (by omega), e]
  have e2 : (-1 + ((l.length : Int) + 1)).toNat = l.length := by omega
  rw [e2]
  simp
  exact q
def setL (n : Nat) (i : Int) (Q : Nat → Prop) : Prop := match ixOf n i with | some k => Q k | none => False
theorem setL_nat {n k : Nat} {Q : Nat → Prop} (h : k < n) (q : Q k) : setL n (k : Int) Q := by
  unfold setL
  rw [ixOf_nat h]
  exact q
theorem setL_int {n : Nat} {i : Int} {Q : Nat → Prop} (hi : 0 ≤ i) (h : i.toNat < n) (q : Q i.toNat) : setL n i Q := by
  have e : ((i.toNat : Nat) : Int) = i := by omega
  rw [← e]
  exact setL_nat h q
def idxV (x i : D) (Q : D → Prop) : Prop :=
  match x, i with
  | .tup l, .int i => idxL l i Q
  | .lst l, .int i => idxL l i Q
  | .str l, .int i => l.length ≤ LB ∧ match (ixOf l.length i).bind (l[·]?) with | some c => Q (.str [c]) | none => False
  | .scr _ ns, .int i => idxL (ns.map .int) i Q
  | .dct kvs, k => keysOk kvs k = true ∧ match lookD kvs k with | some d => Q d | none => False
  | _, _ => False
/-- a slice's bound -/
def cutAt (n d : Nat) (o : D) (Q : Nat → Prop) : Prop :=
  match o with
  | .non => Q d
  | .int v => Q (if v < 0 then (max (v + (n : Int)) 0).toNat else (min v (n : Int)).toNat)
  | _ => False
def slcV (x lo hi : D) (Q : Slot → Prop) : Prop :=
  match x with
  | .tup l => cutAt l.length 0 lo fun a => cutAt l.length l.length hi fun b => Q (.sh (.tup ((l.drop a).take (b - a))))
  | .lst l => cutAt l.length 0 lo fun a => cutAt l.length l.length hi fun b => Q (.ol ((l.drop a).take (b - a)))
  | .scr _ ns => cutAt ns.length 0 lo fun a => cutAt ns.length ns.length hi fun b => Q (.ol (((ns.map D.int).drop a).take (b - a)))
  | .str l => l.length ≤ LB ∧ cutAt l.length 0 lo fun a => cutAt l.length l.length hi fun b => Q (.sh (.str ((l.drop a).take (b - a))))
  | _ => False
def revV (x : D) (Q : Slot → Prop) : Prop :=
  match x with
  | .lst l => Q (.ol l.reverse)
  | .tup l => Q (.sh (.tup l.reverse))
  | _ => False
/-- the items that a walk comes to; a dict is walked by its name alone -/
def itemsV (v : Bool) (x : D) (Q : List D → Prop) : Prop :=
  match x with
  | .tup l => Q l
  | .lst l => Q l
  | .dct l => v = true ∧ Q (l.map (·.1))
  | _ => False
def rangeD (lo hi : Int) : List D := (List.range (hi - lo).toNat).map fun (k : Nat) => D.int (lo + (k : Int))
/-- with a step -/
def rangeZ (i j c : Int) : Nat := if i < j then ((j - i - 1) / c + 1).toNat else 0
def rangeS (i j c : Int) : List D := (List.range (rangeZ i j c)).map fun (k : Nat) => D.int (i + (k : Int) * c)
def leD (x y : D) : Bool := !D.lt y x
/-- sorted, stable -/
def sortD (l : List D) : List D := l.mergeSort leD
/-- the different ones, in the order in which they come -/
def dedupD : List D → List D
  | [] => []
  | x :: xs => x :: (dedupD xs).filter fun y => !D.eqv x y
def minD (x : D) (xs : List D) : D := xs.foldl (fun a y => if D.lt y a then y else a) x
def maxD (x : D) (xs : List D) : D := xs.foldl (fun a y => if D.lt a y then y else a) x
/-- all of one kind -/
def allAlike (l : List D) : Prop := (∀ x ∈ l, ∀ y ∈ l, D.alike x y = true) ∧ (∀ x ∈ l, D.pl 8 x = true ∧ D.eqv x .non = false)
/-- all are tuples that hold something, or none is a tuple -/
def sortable (l : List D) : Prop := (∀ x ∈ l, ∃ y r, x = .tup (y :: r)) ∨ (∀ x ∈ l, D.isTup x = false)
def truth : D → Option Bool
  | .bl b => some b
  | _ => none
def intOf : D → Option Int
  | .int i => some i
  | _ => none
def sumL (l : List D) (Q : Int → Prop) : Prop := match l.mapM intOf with | some ns => Q ns.sum | none => False
def blsL (l : List D) (Q : List Bool → Prop) : Prop := match l.mapM truth with | some bs => Q bs | none => False
theorem mapM_int (ns : List Int) : (ns.map D.int).mapM intOf = some ns := by
  induction ns with
  | nil => rfl
  | cons n ns ih => simp [List.mapM_cons, intOf, ih]
theorem mapM_bl (bs : List Bool) : (bs.map D.bl).mapM truth = some bs := by
  induction bs with
  | nil => rfl
  | cons n ns ih => simp [List.mapM_cons, truth, ih]
theorem sumL_map {ns : List Int} {Q : Int → Prop} (q : Q ns.sum) : sumL (ns.map .int) Q := by
  unfold sumL
  rw [mapM_int]
  exact q
theorem blsL_map {bs : List Bool} {Q : List Bool → Prop} (q : Q bs) : blsL (bs.map .bl) Q := by
  unfold blsL
  rw [mapM_bl]
  exact q
@[irreducible] def minL (l : List D) (Q : D → Prop) : Prop := match l with
  | x :: xs => allAlike (x :: xs) ∧ Q (minD x xs)
  | [] => False
@[irreducible] def maxL (l : List D) (Q : D → Prop) : Prop := match l with
  | x :: xs => allAlike (x :: xs) ∧ Q (maxD x xs)
  | [] => False
def insS (x : Int) : List Int → List Int
  | [] => [x]
  | y :: ys => if x < y then x :: y :: ys else if x = y then y :: ys else y :: insS x ys
/-- the different ones, in order -/
def sortSet : List Int → List Int
  | [] => []
  | x :: xs => insS x (sortSet xs)
theorem mem_insS {x y : Int} : ∀ {l : List Int}, y ∈ insS x l ↔ y = x ∨ y ∈ l
  | [] => by simp [insS]
  | z :: zs => by
    unfold insS
    split
    · simp
    · split
      · rename_i h; subst h; simp
      · simp [mem_insS (l := zs)]
        constructor
        · rintro (h | h | h) <;> simp [h]
        · rintro (h | h | h) <;> simp [h]
theorem sorted_insS {x : Int} : ∀ {l : List Int}, l.Pairwise (· < ·) → (insS x l).Pairwise (· < ·)
  | [], _ => by simp [insS]
  | z :: zs, h => by
    obtain ⟨h1, h2⟩ := List.pairwise_cons.mp h
    unfold insS
    split
    · rename_i hx
      refine List.pairwise_cons.mpr ⟨fun y hy => ?_, h⟩
      rcases List.mem_cons.mp hy with e | e
      · omega
      · have := h1 y e; omega
    · split
      · exact h
      · rename_i h3 h4
        refine List.pairwise_cons.mpr ⟨fun y hy => ?_, sorted_insS h2⟩
        rcases mem_insS.mp hy with e | e
        · omega
        · exact h1 y e
theorem mem_sortSet {y : Int} : ∀ {l : List Int}, y ∈ sortSet l ↔ y ∈ l
  | [] => by simp [sortSet]
  | x :: xs => by rw [sortSet, mem_insS, mem_sortSet, List.mem_cons]
theorem sorted_sortSet : ∀ l : List Int, (sortSet l).Pairwise (· < ·)
  | [] => List.Pairwise.nil
  | x :: xs => by rw [sortSet]; exact sorted_insS (sorted_sortSet xs)
theorem sorted_uniq : ∀ {a b : List Int}, a.Pairwise (· < ·) → b.Pairwise (· < ·) → (∀ k, k ∈ a ↔ k ∈ b) → a = b
  | [], [], _, _, _ => rfl
  | [], y :: ys, _, _, h => absurd ((h y).mpr (by simp)) (by simp)
  | x :: xs, [], _, _, h => absurd ((h x).mp (by simp)) (by simp)
  | x :: xs, y :: ys, ha, hb, h => by
    obtain ⟨a1, a2⟩ := List.pairwise_cons.mp ha
    obtain ⟨b1, b2⟩ := List.pairwise_cons.mp hb
    have e : x = y := by
      rcases List.mem_cons.mp ((h x).mp (by simp)) with e | e
      · exact e
      · rcases List.mem_cons.mp ((h y).mpr (by simp)) with e' | e'
        · exact e'.symm
        · have := a1 y e'; have := b1 x e; omega
    subst e
    congr 1
    refine sorted_uniq a2 b2 fun k => ⟨fun hk => ?_, fun hk => ?_⟩
    · rcases List.mem_cons.mp ((h k).mp (List.mem_cons_of_mem _ hk)) with e | e
      · subst e; have := a1 k hk; omega
      · exact e
    · rcases List.mem_cons.mp ((h k).mpr (List.mem_cons_of_mem _ hk)) with e | e
      · subst e; have := b1 k hk; omega
      · exact e
/-- sorted(set(..)) of few ints -/
@[irreducible] def sisL (l : List D) (Q : List Int → Prop) : Prop := match l.mapM intOf with | some ns => ns.length < 64 ∧ Q (sortSet ns) | none => False
theorem sisL_map {ns : List Int} {Q : List Int → Prop} (h : ns.length < 64) (q : Q (sortSet ns)) : sisL (ns.map .int) Q := by
  unfold sisL
  rw [mapM_int]
  exact ⟨h, q⟩
/-- isinstance(d, ..) -/
def isD (b : Blt) (d : D) : Option Bool :=
  match d with
  | .non => some false
  | .bl _ => some (b == .isInt || b == .isBool)
  | .int _ => some (b == .isInt)
  | .str _ => some (b == .isStr)
  | .tup _ => some (b == .isTup)
  | .lst _ => some (b == .isList)
  | .dct _ => some false
  | _ => none
def isDV (b : Blt) (d : D) (Q : Slot → Prop) : Prop := match isD b d with | some t => Q (.sh (.bl t)) | none => False
def bltV (b : Blt) (ds : List D) (Q : Slot → Prop) : Prop :=
  match b, ds with
  | .isInt, [d] => isDV .isInt d Q
  | .isBool, [d] => isDV .isBool d Q
  | .isStr, [d] => isDV .isStr d Q
  | .isTup, [d] => isDV .isTup d Q
  | .isList, [d] => isDV .isList d Q
  | .len, [.tup l] => Q (.sh (.int l.length))
  | .len, [.lst l] => Q (.sh (.int l.length))
  | .len, [.dct l] => Q (.sh (.int l.length))
  | .len, [.str l] => l.length ≤ LB ∧ Q (.sh (.int l.length))
  | .tuple, [.tup l] => Q (.sh (.tup l))
  | .tuple, [.lst l] => Q (.sh (.tup l))
  | .list, [.tup l] => Q (.ol l)
  | .list, [.lst l] => Q (.ol l)
  | .list, [.dct l] => Q (.ol (l.map (·.1)))
  | .len, [.scr _ ns] => Q (.sh (.int ns.length))
  | .list, [.scr _ ns] => Q (.ol (ns.map .int))
  | .sorted, [.lst l] => allAlike l ∧ sortable l ∧ Q (.ol (sortD l))
  | .sorted, [.tup l] => allAlike l ∧ sortable l ∧ Q (.ol (sortD l))
  | .sortedSet, [.tup l] => sisL l fun ns => Q (.ol (ns.map .int))
  | .sortedSet, [.lst l] => sisL l fun ns => Q (.ol (ns.map .int))
  | .lenSet, [.tup l] => sisL l fun ns => Q (.sh (.int ns.length))
  | .lenSet, [.lst l] => sisL l fun ns => Q (.sh (.int ns.length))
  | .min, [.lst l] => minL l fun d => Q (.sh d)
  | .min, [.tup l] => minL l fun d => Q (.sh d)
  | .max, [.lst l] => maxL l fun d => Q (.sh d)
  | .max, [.tup l] => maxL l fun d => Q (.sh d)
  | .min, [.int i, .int j] => Q (.sh (.int (if j < i then j else i)))
  | .max, [.int i, .int j] => Q (.sh (.int (if i < j then j else i)))
  | .max, [.int i, .int j, .int k] => Q (.sh (.int (if (if i < j then j else i) < k then k else (if i < j then j else i))))
  | .sum, [.lst l] => sumL l fun n => Q (.sh (.int n))
  | .abs, [.int i] => Q (.sh (.int (if i < 0 then -i else i)))
  | .int, [.int i] => Q (.sh (.int i))
  | .int, [.bl b] => Q (.sh (.int (if b then 1 else 0)))
  | .all, [.lst l] => blsL l fun bs => Q (.sh (.bl (bs.all id)))
  | .any, [.lst l] => blsL l fun bs => Q (.sh (.bl (bs.any id)))
  | _, _ => False
/-- range(..), walked -/
def rngV (ds : List D) (Q : List D → Prop) : Prop :=
  match ds with
  | [.int j] => j ≤ LB ∧ -1000000 ≤ j ∧ Q (rangeD 0 j)
  | [.int i, .int j] => j ≤ LB ∧ -1000000 ≤ i ∧ i ≤ LB ∧ -1000000 ≤ j ∧ Q (rangeD i j)
  | [.int i, .int j, .int c] => (0 < c ∧ c ≤ LB) ∧ j ≤ LB ∧ -1000000 ≤ i ∧ i ≤ LB ∧ -1000000 ≤ j ∧ Q (rangeS i j c)
  | _ => False
def fndL (l : List D) (y : D) (Q : Nat → Prop) : Prop := match l.findIdx? (fun z => D.eqv z y) with | some k => Q k | none => False
theorem fndL_of {l : List D} {y : D} {k : Nat} {Q : Nat → Prop} (h : l.findIdx? (fun z => D.eqv z y) = some k) (q : Q k) : fndL l y Q := by
  unfold fndL
  rw [h]
  exact q
/-- methods that change nothing -/
def mthV (m : Mth) (x : D) (ds : List D) (Q : Slot → Prop) : Prop :=
  match m, x, ds with
  | .index, .tup l, [y] => D.pl 9 y = true ∧ D.pls 9 l = true ∧ fndL l y fun k => Q (.sh (.int k))
  | .index, .lst l, [y] => D.pl 9 y = true ∧ D.pls 9 l = true ∧ fndL l y fun k => Q (.sh (.int k))
  | .count, .tup l, [y] => D.pl 9 y = true ∧ D.pls 9 l = true ∧ Q (.sh (.int (l.countP fun z => D.eqv z y)))
  | .count, .lst l, [y] => D.pl 9 y = true ∧ D.pls 9 l = true ∧ Q (.sh (.int (l.countP fun z => D.eqv z y)))
  | .get, .dct kvs, [k, d] => keysOk kvs k = true ∧ Q (.sh ((lookD kvs k).getD d))
  | _, _, _ => False
theorem bif_by {b : Bool} {A B : Prop} (h1 : b = true → A) (h2 : b = false → B) : bif b then A else B := by
  cases b with
  | true => exact h1 rfl
  | false => exact h2 rfl
/-! ### weakest preconditions -/
structure Ctx where
  /-- the module's constants, and its functions as values -/
  G : Nat → Option D
  /-- what calls do -/
  F : Nat → List D → (D → Prop) → Prop
def onB (s : Slot) (Q : Bool → Prop) : Prop :=
  match s with
  | .sh (.bl b) => Q b
  | _ => False
def live (ρ : Env) (i : Nat) : Prop :=
  match ρ[i]? with
  | some .un => False
  | none => False
  | _ => True
def opd (e : Ex) (k : (Slot → Env → Prop) → Prop) (ρ : Env) (Q : Opd → Env → Prop) : Prop :=
  match e with
  | .var i => live ρ i ∧ Q (.r i) ρ
  | _ => k fun s ρ' => Q (.v s.val) ρ'
def partD : Option Int → D
  | none => .non
  | some i => .int i
/-- a slice's bound -/
def prt (e : Ex) (k : (Slot → Env → Prop) → Prop) (ρ : Env) (Q : Option Int → Env → Prop) : Prop :=
  match e with
  | .noPart => Q none ρ
  | _ => k fun s ρ' => match s with
    | .sh (.int i) => Q (some i) ρ'
    | _ => False
def varX (ρ : Env) (i : Nat) (Q : Slot → Env → Prop) : Prop :=
  match ρ[i]? with
  | some (.sh d) => Q (.sh d) ρ
  | some (.ol l) => Q (.sh (.lst l)) (ρ.set i (.sh (.lst l)))
  | some (.od l) => Q (.sh (.dct l)) (ρ.set i (.sh (.dct l)))
  | _ => False
def wipeE (ρ : Env) : List Nat → Env
  | [] => ρ
  | i :: is => (wipeE ρ is).set i .un
def freezeI (ρ : Env) : List Nat → Env
  | [] => ρ
  | i :: is => freeze (freezeI ρ is) i
/-- the slots is of ρ1 back in ρ2 -/
def backE (ρ1 ρ2 : Env) : List Nat → Env
  | [] => ρ2
  | i :: is => (backE ρ1 ρ2 is).set i (ρ1[i]?.getD .un)
def lcW (step : D → Env → (Option D → Env → Prop) → Prop) : List D → List D → Env → (List D → Env → Prop) → Prop
  | [], acc, ρ, Q => Q acc ρ
  | x :: xs, acc, ρ, Q => step x ρ fun r ρ' => lcW step xs (match r with | some d => acc ++ [d] | none => acc) ρ' Q
def dcPut (acc : List (D × D)) (rest : List (D × D) → Env → Prop) : Option (D × D) → Env → Prop
  | some p, ρ => keysOk acc p.1 = true ∧ rest (putD acc p.1 p.2) ρ
  | none, ρ => rest acc ρ
def dcW (step : D → Env → (Option (D × D) → Env → Prop) → Prop) : List D → List (D × D) → Env → (List (D × D) → Env → Prop) → Prop
  | [], acc, ρ, Q => Q acc ρ
  | x :: xs, acc, ρ, Q => step x ρ (dcPut acc fun acc' ρ' => dcW step xs acc' ρ' Q)
def ownL (ρ : Env) (k : Nat) : Prop :=
  match ρ[k]? with
  | some (.ol _) => True
  | _ => False
def ownD (ρ : Env) (k : Nat) : Prop :=
  match ρ[k]? with
  | some (.od _) => True
  | _ => False
/-- what has methods -/
def kindD : D → Nat
  | .lst _ => 1
  | .tup _ => 2
  | _ => 0
/-- append to the list at k -/
def appK (ρ : Env) (k : Nat) (d : D) (Q : Slot → Env → Prop) : Prop :=
  match ρ[k]? with
  | some (.ol l) => l.length < LB ∧ Q (.sh .non) (ρ.set k (.ol (l ++ [d])))
  | _ => False
def extK (ρ : Env) (k : Nat) (d : D) (Q : Slot → Env → Prop) : Prop :=
  match ρ[k]?, d with
  | some (.ol l), .lst m => l.length + m.length < LB ∧ Q (.sh .non) (ρ.set k (.ol (l ++ m)))
  | _, _ => False
def popL (l : List D) (Q : D → Prop) : Prop := match l[l.length - 1]? with | some d => Q d | none => False
def popK (ρ : Env) (k : Nat) (Q : Slot → Env → Prop) : Prop :=
  match ρ[k]? with
  | some (.ol l) => popL l fun d => Q (.sh d) (ρ.set k (.ol l.dropLast))
  | _ => False
def putAll (kvs : List (D × D)) (more : List (D × D)) : List (D × D) := more.foldl (fun acc p => putD acc p.1 p.2) kvs
def updK (ρ : Env) (k : Nat) (d : D) (Q : Slot → Env → Prop) : Prop :=
  match ρ[k]?, d with
  | some (.od l), .dct m => l.length + m.length < LB ∧ ((l ++ m).all fun p => D.leaf p.1) = true ∧ Q (.sh .non) (ρ.set k (.od (putAll l m)))
  | _, _ => False
/-- the item i of the list or dict at k is now d -/
def setK (ρ : Env) (k : Nat) (i d : D) (Q : Env → Prop) : Prop :=
  match ρ[k]?, i with
  | some (.ol l), .int j => setL l.length j fun n => Q (ρ.set k (.ol (l.set n d)))
  | some (.od l), key => l.length < LB ∧ keysOk l key = true ∧ Q (ρ.set k (.od (putD l key d)))
  | _, _ => False
/-- the operands' lists may be known elsewhere behind a call, if its value may hold them -/
def behind (ρ : Env) (os : List Opd) (d : D) : Env := if d.imm = true then ρ else freezes ρ os
mutual
def wX (Φ : Ctx) : Ex → Env → (Slot → Env → Prop) → Prop
  | .lit d, ρ, Q => Q (.sh d) ρ
  | .var i, ρ, Q => varX ρ i Q
  | .glb g, ρ, Q => match Φ.G g with | some d => Q (.sh d) ρ | none => False
  | .bin o a b, ρ, Q => opd a (wX Φ a ρ) ρ fun x ρ1 => opd b (wX Φ b ρ1) ρ1 fun y ρ2 => x.get ρ2 fun x' => y.get ρ2 fun y' => binV o x' y' fun s => Q s ρ2
  | .neg a, ρ, Q => wX Φ a ρ fun s ρ1 => match s with | .sh (.int i) => Q (.sh (.int (-i))) ρ1 | _ => False
  | .not a, ρ, Q => wX Φ a ρ fun s ρ1 => onB s fun b => Q (.sh (.bl (!b))) ρ1
  | .cmp o a b, ρ, Q => opd a (wX Φ a ρ) ρ fun x ρ1 => opd b (wX Φ b ρ1) ρ1 fun y ρ2 => x.get ρ2 fun x' => y.get ρ2 fun y' => cmpV o x' y' fun b => Q (.sh (.bl b)) ρ2
  | .chn o1 o2 a b c, ρ, Q => opd a (wX Φ a ρ) ρ fun x ρ1 => opd b (wX Φ b ρ1) ρ1 fun y ρ2 => x.get ρ2 fun x' => y.get ρ2 fun y' => cmpV o1 x' y' fun b1 =>
      bif b1 then opd c (wX Φ c ρ2) ρ2 fun z ρ3 => y.get ρ3 fun y' => z.get ρ3 fun z' => cmpV o2 y' z' fun b2 => Q (.sh (.bl b2)) ρ3 else Q (.sh (.bl false)) ρ2
  | .and a b, ρ, Q => wX Φ a ρ fun s ρ1 => onB s fun b1 => bif b1 then wX Φ b ρ1 fun s2 ρ2 => onB s2 fun b2 => Q (.sh (.bl b2)) ρ2 else Q (.sh (.bl false)) ρ1
  | .or a b, ρ, Q => wX Φ a ρ fun s ρ1 => onB s fun b1 => bif b1 then Q (.sh (.bl true)) ρ1 else wX Φ b ρ1 fun s2 ρ2 => onB s2 fun b2 => Q (.sh (.bl b2)) ρ2
  | .ife c a b, ρ, Q => wX Φ c ρ fun s ρ1 => onB s fun t => bif t then wX Φ a ρ1 Q else wX Φ b ρ1 Q
  | .tup es, ρ, Q => wVs Φ es ρ fun ds ρ1 => Q (.sh (.tup ds)) ρ1
  | .lst es, ρ, Q => wVs Φ es ρ fun ds ρ1 => Q (.ol ds) ρ1
  | .dct kvs, ρ, Q => wKs Φ kvs ρ fun ps ρ1 => (ps.all fun p => D.leaf p.1) = true ∧ Q (.od (putAll [] ps)) ρ1
  | .idx a i, ρ, Q => opd a (wX Φ a ρ) ρ fun x ρ1 => opd i (wX Φ i ρ1) ρ1 fun y ρ2 => x.get ρ2 fun x' => y.get ρ2 fun y' => idxV x' y' fun d => Q (.sh d) ρ2
  | .slc a lo hi, ρ, Q => opd a (wX Φ a ρ) ρ fun x ρ1 => prt lo (wX Φ lo ρ1) ρ1 fun y ρ2 => prt hi (wX Φ hi ρ2) ρ2 fun z ρ3 => x.get ρ3 fun x' => slcV x' (partD y) (partD z) fun s => Q s ρ3
  | .rev a, ρ, Q => opd a (wX Φ a ρ) ρ fun x ρ1 => x.get ρ1 fun x' => revV x' fun s => Q s ρ1
  | .noPart, ρ, Q => Q (.sh .non) ρ
  | .call f es, ρ, Q => wOs Φ es ρ fun os ρ1 => gets ρ1 os fun ds => Φ.F f ds fun d => Q (.sh d) (behind ρ1 os d)
  | .callv f es, ρ, Q => wX Φ f ρ fun s ρ1 => match s with
    | .sh (.fn g caps) => caps = [] ∧ g ≠ 1 ∧ wOs Φ es ρ1 fun os ρ2 => gets ρ2 os fun ds => Φ.F g ds fun d => Q (.sh d) (behind ρ2 os d)
    | _ => False
  | .blt b es, ρ, Q => wOs Φ es ρ fun os ρ1 => gets ρ1 os fun ds => bltV b ds fun s => Q s ρ1
  | .rng t es, ρ, Q => wOs Φ es ρ fun os ρ1 => gets ρ1 os fun ds => rngV ds fun l => Q (if t then .sh (.tup l) else .ol l) ρ1
  | .mth m o es, ρ, Q => match m, o, es with
    | .append, .var k, .c e .n => ownL ρ k ∧ wX Φ e ρ fun s ρ1 => appK ρ1 k s.val Q
    | .extend, .var k, .c e .n => ownL ρ k ∧ wX Φ e ρ fun s ρ1 => extK ρ1 k s.val Q
    | .update, .var k, .c e .n => ownD ρ k ∧ wX Φ e ρ fun s ρ1 => updK ρ1 k s.val Q
    | .pop, .var k, .n => popK ρ k Q
    | m, o, es => opd o (wX Φ o ρ) ρ fun x ρ1 => x.get ρ1 fun x0 => kindD x0 ≠ 0 ∧ wOs Φ es ρ1 fun os ρ2 => x.get ρ2 fun x' => kindD x' = kindD x0 ∧ gets ρ2 os fun ds => mthV m x' ds fun s => Q s ρ2
  | .lc own elt t it c, ρ, Q => wI Φ it ρ fun items ρ1 =>
      lcW (fun x ρ' K => wT Φ t (.sh x) ρ' fun ρ2 => wCs Φ c ρ2 fun b ρ3 => bif b then wX Φ elt ρ3 fun s ρ4 => K (some s.val) (wipeE ρ4 own) else K none (wipeE ρ3 own)) items [] (wipeE (freezeI ρ1 own) own)
        fun ds ρ2 => Q (.ol ds) (backE (freezeI ρ1 own) ρ2 own)
  | .dc own k v t it c, ρ, Q => wI Φ it ρ fun items ρ1 =>
      dcW (fun x ρ' K => wT Φ t (.sh x) ρ' fun ρ2 => wCs Φ c ρ2 fun b ρ3 => bif b then wX Φ k ρ3 fun s ρ4 => wX Φ v ρ4 fun s' ρ5 => K (some (s.val, s'.val)) (wipeE ρ5 own) else K none (wipeE ρ3 own)) items [] (wipeE (freezeI ρ1 own) own)
        fun kvs ρ2 => Q (.od kvs) (backE (freezeI ρ1 own) ρ2 own)
  | .lam _ _, _, _ => False
  | .minKey _ _ _ _, _, _ => False
/-- operands, from the left -/
def wOs (Φ : Ctx) : Exs → Env → (List Opd → Env → Prop) → Prop
  | .n, ρ, Q => Q [] ρ
  | .c e es, ρ, Q => opd e (wX Φ e ρ) ρ fun x ρ1 => wOs Φ es ρ1 fun xs ρ2 => Q (x :: xs) ρ2
/-- values, from the left -/
def wVs (Φ : Ctx) : Exs → Env → (List D → Env → Prop) → Prop
  | .n, ρ, Q => Q [] ρ
  | .c e es, ρ, Q => wX Φ e ρ fun s ρ1 => wVs Φ es ρ1 fun ds ρ2 => Q (s.val :: ds) ρ2
/-- a dict's display -/
def wKs (Φ : Ctx) : Kvs → Env → (List (D × D) → Env → Prop) → Prop
  | .n, ρ, Q => Q [] ρ
  | .c k v kvs, ρ, Q => wX Φ k ρ fun s ρ1 => wX Φ v ρ1 fun s' ρ2 => wKs Φ kvs ρ2 fun ps ρ3 => Q ((s.val, s'.val) :: ps) ρ3
/-- tests behind a comprehension's for -/
def wCs (Φ : Ctx) : Exs → Env → (Bool → Env → Prop) → Prop
  | .n, ρ, Q => Q true ρ
  | .c e .n, ρ, Q => wX Φ e ρ fun s ρ1 => onB s fun b => Q b ρ1
  | _, _, _ => False
/-- what a for walks -/
def wI (Φ : Ctx) : It → Env → (List D → Env → Prop) → Prop
  | .range es, ρ, Q => wOs Φ es ρ fun os ρ1 => gets ρ1 os fun ds => rngV ds fun l => Q l ρ1
  | .zip es, ρ, Q => wOs Φ es ρ fun os ρ1 => gets ρ1 os fun ds => match ds with
    | [.tup l, .tup m] => Q (List.zipWith (fun a b => .tup [a, b]) l m) (freezes ρ1 os)
    | [.lst l, .lst m] => Q (List.zipWith (fun a b => .tup [a, b]) l m) (freezes ρ1 os)
    | [.tup l, .lst m] => Q (List.zipWith (fun a b => .tup [a, b]) l m) (freezes ρ1 os)
    | _ => False
  | .e e, ρ, Q => wX Φ e ρ fun s ρ1 => itemsV e.isVar s.val fun l => Q l ρ1
/-- a target takes a value -/
def wT (Φ : Ctx) : Tg → Slot → Env → (Env → Prop) → Prop
  | .nm i, s, ρ, Q => Q (ρ.set i s)
  | .tp ts, s, ρ, Q => match s.val with
    | .tup l => l.length = ts.len ∧ wTs Φ ts l ρ Q
    | _ => False
  | .sb k i, s, ρ, Q => live ρ k ∧ wX Φ i ρ fun s' ρ1 => setK ρ1 k s'.val s.val Q
def wTs (Φ : Ctx) : Tgs → List D → Env → (Env → Prop) → Prop
  | .n, [], ρ, Q => Q ρ
  | .c t ts, d :: ds, ρ, Q => wT Φ t (.sh d) ρ fun ρ1 => wTs Φ ts ds ρ1 Q
  | _, _, _, _ => False
end
structure Ends where
  nx : Env → Prop
  rt : D → Env → Prop
  bk : Env → Prop
  ct : Env → Prop
def whW (test : Env → (Bool → Env → Prop) → Prop) (body : Env → Ends → Prop) (E : Ends) : Nat → Env → Prop
  | 0, _ => False
  | n + 1, ρ => test ρ fun b ρ1 => bif b then body ρ1 ⟨whW test body E n, E.rt, E.nx, whW test body E n⟩ else E.nx ρ1
def foW (body : D → Env → Ends → Prop) (E : Ends) : List D → Env → Prop
  | [], ρ => E.nx ρ
  | x :: xs, ρ => body x ρ ⟨foW body E xs, E.rt, E.nx, foW body E xs⟩
mutual
def wS (Φ : Ctx) : St → Env → Ends → Prop
  | .asg t e, ρ, E => wX Φ e ρ fun s ρ1 => wT Φ t s ρ1 E.nx
  | .par2d i j, ρ, E => E.nx ((ρ.set i (.od [])).set j (.od []))
  | .aug i o e, ρ, E => peek ρ i fun x => wX Φ e ρ fun s ρ1 => match o, x, s.val with
    | .add, .int a, .int b => E.nx (ρ1.set i (.sh (.int (a + b))))
    | .sub, .int a, .int b => E.nx (ρ1.set i (.sh (.int (a - b))))
    | .mul, .int a, .int b => okMul a b ∧ E.nx (ρ1.set i (.sh (.int (a * b))))
    | _, _, _ => False
  | .augS k i o e, ρ, E => live ρ k ∧ wX Φ i ρ fun s1 ρ1 => ownL ρ1 k ∧ peek ρ1 k fun x => idxV x s1.val fun d => wX Φ e ρ1 fun s2 ρ2 => match o, d, s2.val with
    | .add, .int a, .int b => setK ρ2 k s1.val (.int (a + b)) E.nx
    | _, _, _ => False
  | .exp e, ρ, E => wX Φ e ρ fun _ ρ1 => E.nx ρ1
  | .ret e, ρ, E => wX Φ e ρ fun s ρ1 => E.rt s.val ρ1
  | .iff c a b, ρ, E => wX Φ c ρ fun s ρ1 => onB s fun t => bif t then wSs Φ a ρ1 E else wSs Φ b ρ1 E
  | .whl c b, ρ, E => ∃ n, whW (fun ρ Q => wX Φ c ρ fun s ρ1 => onB s fun t => Q t ρ1) (fun ρ E => wSs Φ b ρ E) E n ρ
  | .for t it b, ρ, E => wI Φ it ρ fun items ρ1 => foW (fun x ρ E => wT Φ t (.sh x) ρ fun ρ' => wSs Φ b ρ' E) E items ρ1
  | .brk, ρ, E => E.bk ρ
  | .cnt, ρ, E => E.ct ρ
  | .rse, _, _ => False
def wSs (Φ : Ctx) : Sts → Env → Ends → Prop
  | .n, ρ, E => E.nx ρ
  | .c s ss, ρ, E => wS Φ s ρ ⟨fun ρ1 => wSs Φ ss ρ1 E, E.rt, E.bk, E.ct⟩
end
/-- a def: its slots in all, its parameters, its body -/
structure Fn where
  slots : Nat
  pars : Nat
  body : Sts
  deriving Inhabited
def wF (Φ : Ctx) (f : Fn) (ds : List D) (Q : D → Prop) : Prop :=
  ds.length = f.pars ∧ f.pars ≤ f.slots ∧ wSs Φ f.body (ds.map Slot.sh ++ List.replicate (f.slots - f.pars) .un) ⟨fun _ => Q .non, fun d _ => Q d, fun _ => False, fun _ => False⟩
/-- a program: its constants, its defs -/
structure Prog where
  G : Nat → Option D
  fns : Nat → Option Fn
/-- calls to depth n; the call of 0 draws a number below its argument -/
def run (P : Prog) : Nat → Nat → List D → (D → Prop) → Prop
  | 0, f, ds, Q => match f, ds with
    | 0, [.pool, .int m] => 0 < m ∧ m < 2 ^ 31 ∧ ∀ v : Int, 0 ≤ v → v < m → Q (.int v)
    | _, _ => False
  | n + 1, f, ds, Q => match f, ds with
    | 0, [.pool, .int m] => 0 < m ∧ m < 2 ^ 31 ∧ ∀ v : Int, 0 ≤ v → v < m → Q (.int v)
    | 0, _ => False
    | f, ds => match P.fns f with
      | some fn => wF ⟨P.G, run P n⟩ fn ds Q
      | none => False
end Wg
set_option Elab.async false
set_option linter.all false
set_option maxRecDepth 100000
/-! WgS: how the data of Wg lie in the abstract heap. -/
namespace WgS
open PySem PySem.Spec PyProof.Rows L2
open Wg (D Slot Opd Ex Exs Tg Tgs It Kvs Sts BOp COp Blt Mth LB)
/-- a tuple of the written part -/
def KTup (K : PySem.W.Frag) (a : Addr) (xs : List V) : Prop :=
  ∃ (o : Obj) (its : Array Value) (n : Nat), K.lookup a = some o ∧ o.cls = .type "tuple" ∧ o.dict = none ∧ o.data = .seq its n ∧ its.size ≤ sizeLine ∧ Vals xs its.toList
/-- what is fixed: the written part, the pool, the functions -/
structure Wd where
  K : PySem.W.Frag
  P : Option Addr
  /-- the pool's cells -/
  ps : Addr
  fn : Nat → Option Addr
  /-- names that keep their values -/
  keep : Nat → Option V := fun _ => none
abbrev AS := Addr → Prop
/-- a key as data -/
def keyD : Key → D
  | .inl i => .int i
  | .inr x => .str x.cps.toList
mutual
inductive Rep (W : Wd) (S : AS) (H : Hp) : V → D → Prop
  | non : Rep W S H .non .non
  | bl (b : Bool) : Rep W S H (.bl b) (.bl b)
  | int (i : Int) : Rep W S H (.int i) (.int i)
  | str (s : List Nat) : Rep W S H (.str ⟨s.toArray⟩) (.str s)
  | tup {a : Addr} {o : Obj} {xs : List V} {ds : List D} : S a → H a = some (.frz o (.tup xs)) → o.dict = none → Reps W S H xs ds → Rep W S H (.ref a) (.tup ds)
  | ktup {a : Addr} {xs : List V} {ds : List D} : KTup W.K a xs → Reps W S H xs ds → Rep W S H (.ref a) (.tup ds)
  | lst {a : Addr} {xs : List V} {ds : List D} : S a → H a = some (.lst xs) → Reps W S H xs ds → Rep W S H (.ref a) (.lst ds)
  | dct {a : Addr} {kvs : List (Key × V)} {ds : List (D × D)} : S a → Rd H a (.dK kvs) → RepKs W S H kvs ds → Rep W S H (.ref a) (.dct ds)
  | fn {f : Nat} {a : Addr} : W.fn f = some a → Rep W S H (.ref a) (.fn f [])
  | pool {p : Addr} : W.P = some p → Rep W S H (.ref p) .pool
  | scr {k : Nat} {a : Addr} {ns : List Int} : (k ≠ 0 → W.fn k = some a) → S a → Rd H a (.lst (ns.map V.int)) → Rep W S H (.ref a) (.scr k ns)
  | kscr {k : Nat} {a : Addr} {ns : List Int} : (k ≠ 0 → W.fn k = some a) → (∀ H, SqL W.K H a (ns.map V.int)) → Rep W S H (.ref a) (.scr k ns)
inductive Reps (W : Wd) (S : AS) (H : Hp) : List V → List D → Prop
  | nil : Reps W S H [] []
  | cons {v : V} {vs : List V} {d : D} {ds : List D} : Rep W S H v d → Reps W S H vs ds → Reps W S H (v :: vs) (d :: ds)
inductive RepKs (W : Wd) (S : AS) (H : Hp) : List (Key × V) → List (D × D) → Prop
  | nil : RepKs W S H [] []
  | cons {k : Key} {v : V} {kvs : List (Key × V)} {d : D} {ds : List (D × D)} : Rep W S H v d → RepKs W S H kvs ds → RepKs W S H ((k, v) :: kvs) ((keyD k, d) :: ds)
end
section
variable {W : Wd} {S S' : AS} {H H' : Hp}
/-- the same, but for a dict's lock -/
def Sm (x y : Option HO) : Prop := y = x ∨ ∃ kvs, (x = some (.dK kvs) ∨ ∃ o, x = some (.frz o (.dK kvs))) ∧ (y = some (.dK kvs) ∨ ∃ o, y = some (.frz o (.dK kvs)))
theorem Sm.refl {x : Option HO} : Sm x x := .inl rfl
theorem Sm.frzT {x y : Option HO} {o : Obj} {xs : List V} (h : Sm x y) (e : x = some (.frz o (.tup xs))) : y = some (.frz o (.tup xs)) := by
  rcases h with h | ⟨kvs, h | ⟨o', h⟩, _⟩
  · rw [h, e]
  · rw [e] at h; cases h
  · rw [e] at h; cases h
theorem Sm.lst {x y : Option HO} {xs : List V} (h : Sm x y) (e : x = some (.lst xs)) : y = some (.lst xs) := by
  rcases h with h | ⟨kvs, h | ⟨o', h⟩, _⟩
  · rw [h, e]
  · rw [e] at h; cases h
  · rw [e] at h; cases h
theorem Sm.rdL {a : Addr} {xs : List V} (h : Sm (H a) (H' a)) (e : Rd H a (.lst xs)) : Rd H' a (.lst xs) := by
  rcases e with e | ⟨o, e⟩
  · exact .inl (h.lst e)
  · rcases h with h | ⟨kvs, h | ⟨o', h⟩, _⟩
    · exact .inr ⟨o, h.trans e⟩
    · rw [e] at h; cases h
    · rw [e] at h; cases h
theorem Sm.rdD {a : Addr} {kvs : List (Key × V)} (h : Sm (H a) (H' a)) (e : Rd H a (.dK kvs)) : Rd H' a (.dK kvs) := by
  rcases h with h | ⟨kvs', h, g⟩
  · unfold Rd; rw [h]; exact e
  · have : kvs' = kvs := by
      rcases e with e | ⟨o, e⟩ <;> rcases h with h | ⟨o', h⟩ <;> rw [e] at h <;> cases h <;> rfl
    subst this
    exact g
theorem Sm.ne {x y : Option HO} (h : Sm x y) (e : x ≠ none) : y ≠ none := by
  rcases h with h | ⟨kvs, _, h | ⟨o, h⟩⟩
  · rw [h]; exact e
  · rw [h]; simp
  · rw [h]; simp
mutual
theorem Rep.mono' (k : ∀ a, S a → S' a ∧ Sm (H a) (H' a)) : ∀ {v : V} {d : D}, Rep W S H v d → Rep W S' H' v d
  | _, _, .non => .non
  | _, _, .bl _ => .bl _
  | _, _, .int _ => .int _
  | _, _, .str _ => .str _
  | _, _, .tup hs ha hd hr => .tup (k _ hs).1 ((k _ hs).2.frzT ha) hd (Reps.mono' k hr)
  | _, _, .ktup hk hr => .ktup hk (Reps.mono' k hr)
  | _, _, .lst hs ha hr => .lst (k _ hs).1 ((k _ hs).2.lst ha) (Reps.mono' k hr)
  | _, _, .dct hs ha hr => .dct (k _ hs).1 ((k _ hs).2.rdD ha) (RepKs.mono' k hr)
  | _, _, .fn e => .fn e
  | _, _, .pool e => .pool e
  | _, _, .scr hi hs ha => .scr hi (k _ hs).1 ((k _ hs).2.rdL ha)
  | _, _, .kscr hi hk => .kscr hi hk
theorem Reps.mono' (k : ∀ a, S a → S' a ∧ Sm (H a) (H' a)) : ∀ {vs : List V} {ds : List D}, Reps W S H vs ds → Reps W S' H' vs ds
  | _, _, .nil => .nil
  | _, _, .cons h1 h2 => .cons (Rep.mono' k h1) (Reps.mono' k h2)
theorem RepKs.mono' (k : ∀ a, S a → S' a ∧ Sm (H a) (H' a)) : ∀ {vs : List (Key × V)} {ds : List (D × D)}, RepKs W S H vs ds → RepKs W S' H' vs ds
  | _, _, .nil => .nil
  | _, _, .cons h1 h2 => .cons (Rep.mono' k h1) (RepKs.mono' k h2)
end
theorem smOf (k : ∀ a, S a → S' a ∧ H' a = H a) : ∀ a, S a → S' a ∧ Sm (H a) (H' a) := fun a h => ⟨(k a h).1, .inl (k a h).2⟩
theorem Rep.mono (k : ∀ a, S a → S' a ∧ H' a = H a) (d : D) (v : V) (h : Rep W S H v d) : Rep W S' H' v d := Rep.mono' (smOf k) h
theorem Reps.mono (k : ∀ a, S a → S' a ∧ H' a = H a) (ds : List D) (vs : List V) (h : Reps W S H vs ds) : Reps W S' H' vs ds := Reps.mono' (smOf k) h
theorem RepKs.mono (k : ∀ a, S a → S' a ∧ H' a = H a) {vs : List (Key × V)} {ds : List (D × D)} (h : RepKs W S H vs ds) : RepKs W S' H' vs ds := RepKs.mono' (smOf k) h
theorem RepKs.length : ∀ {vs : List (Key × V)} {ds : List (D × D)}, RepKs W S H vs ds → vs.length = ds.length
  | _, _, .nil => rfl
  | _, _, .cons _ t => congrArg (· + 1) (RepKs.length t)
theorem Reps.length : ∀ {vs : List V} {ds : List D}, Reps W S H vs ds → vs.length = ds.length
  | _, _, .nil => rfl
  | _, _, .cons _ t => congrArg (· + 1) (Reps.length t)
theorem Reps.get : ∀ {vs : List V} {ds : List D} {i : Nat} {d : D}, Reps W S H vs ds → ds[i]? = some d → ∃ v, vs[i]? = some v ∧ Rep W S H v d
  | _, _, _, _, .nil, e => by simp at e
  | _, _, 0, _, .cons r _, e => by simp at e; subst e; exact ⟨_, rfl, r⟩
  | _, _, i + 1, d, .cons _ t, e => by
    obtain ⟨v, h1, h2⟩ := Reps.get (i := i) (d := d) t (by simpa using e)
    exact ⟨v, by simpa using h1, h2⟩
theorem Reps.get' : ∀ {vs : List V} {ds : List D} {i : Nat} {v : V}, Reps W S H vs ds → vs[i]? = some v → ∃ d, ds[i]? = some d ∧ Rep W S H v d
  | _, _, _, _, .nil, e => by simp at e
  | _, _, 0, _, .cons r _, e => by simp at e; subst e; exact ⟨_, rfl, r⟩
  | _, _, i + 1, v, .cons _ t, e => by
    obtain ⟨d, h1, h2⟩ := Reps.get' (i := i) (v := v) t (by simpa using e)
    exact ⟨d, by simpa using h1, h2⟩
theorem Reps.append : ∀ {vs us : List V} {ds es : List D}, Reps W S H vs ds → Reps W S H us es → Reps W S H (vs ++ us) (ds ++ es)
  | _, _, _, _, .nil, s => s
  | _, _, _, _, .cons r t, s => .cons r (Reps.append t s)
theorem Reps.take : ∀ {vs : List V} {ds : List D} (n : Nat), Reps W S H vs ds → Reps W S H (vs.take n) (ds.take n)
  | _, _, 0, _ => .nil
  | _, _, _ + 1, .nil => .nil
  | _, _, n + 1, .cons r t => .cons r (Reps.take n t)
theorem Reps.drop : ∀ {vs : List V} {ds : List D} (n : Nat), Reps W S H vs ds → Reps W S H (vs.drop n) (ds.drop n)
  | _, _, 0, r => r
  | _, _, _ + 1, .nil => .nil
  | _, _, n + 1, .cons _ t => Reps.drop n t
theorem Reps.set {v : V} {d : D} (r : Rep W S H v d) : ∀ {vs : List V} {ds : List D} (i : Nat), Reps W S H vs ds → Reps W S H (vs.set i v) (ds.set i d)
  | _, _, _, .nil => .nil
  | _, _, 0, .cons _ t => .cons r t
  | _, _, i + 1, .cons q t => .cons q (Reps.set r i t)
theorem Reps.rev : ∀ {vs : List V} {ds : List D}, Reps W S H vs ds → Reps W S H vs.reverse ds.reverse
  | _, _, .nil => .nil
  | _, _, .cons r t => by
    rw [List.reverse_cons, List.reverse_cons]
    exact Reps.append (Reps.rev t) (.cons r .nil)
theorem Reps.rep {vs : List V} {ds : List D} (h : Reps W S H vs ds) : ∀ k : Nat, Reps W S H (List.replicate k vs).flatten (List.replicate k ds).flatten
  | 0 => .nil
  | k + 1 => by
    rw [List.replicate_succ, List.replicate_succ, List.flatten_cons, List.flatten_cons]
    exact Reps.append h (Reps.rep h k)
theorem Reps.dropLast {vs : List V} {ds : List D} (h : Reps W S H vs ds) : Reps W S H vs.dropLast ds.dropLast := by
  rw [List.dropLast_eq_take, List.dropLast_eq_take, h.length]
  exact h.take _
theorem Reps.ints : ∀ (ns : List Int), Reps W S H (ns.map V.int) (ns.map D.int)
  | [] => .nil
  | n :: ns => .cons (.int n) (Reps.ints ns)
theorem Reps.snoc {vs : List V} {ds : List D} {v : V} {d : D} (h : Reps W S H vs ds) (r : Rep W S H v d) : Reps W S H (vs ++ [v]) (ds ++ [d]) := h.append (.cons r .nil)
/-- a value whose top alone may be a list of its own -/
def RepT (W : Wd) (S : AS) (H : Hp) (v : V) (d : D) : Prop :=
  match d with
  | .lst l => ∃ a xs, v = .ref a ∧ H a = some (.lst xs) ∧ Reps W S H xs l
  | .dct l => ∃ a kvs, v = .ref a ∧ Rd H a (.dK kvs) ∧ RepKs W S H kvs l
  | d => Rep W S H v d
theorem Rep.top {v : V} {d : D} (h : Rep W S H v d) : RepT W S H v d := by
  cases h with
  | tup hs ha hd hr => exact .tup hs ha hd hr
  | ktup hk hr => exact .ktup hk hr
  | lst hs ha hr => exact ⟨_, _, rfl, ha, hr⟩
  | dct hs ha hr => exact ⟨_, _, rfl, ha, hr⟩
  | non => exact .non
  | bl b => exact .bl b
  | int i => exact .int i
  | str s => exact .str s
  | fn e => exact .fn e
  | pool e => exact .pool e
  | scr hi hs ha => exact .scr hi hs ha
  | kscr hi hk => exact .kscr hi hk
theorem Rep.scrv {v : V} {k : Nat} {ns : List Int} (h : Rep W S H v (.scr k ns)) : ∃ a, v = .ref a ∧ SqL W.K H a (ns.map V.int) := by
  cases h with
  | scr hi hs ha => exact ⟨_, rfl, .inl ha⟩
  | kscr hi hk => exact ⟨_, rfl, hk _⟩
theorem RepT.dct {v : V} {l : List (D × D)} (h : RepT W S H v (.dct l)) : ∃ a kvs, v = .ref a ∧ Rd H a (.dK kvs) ∧ RepKs W S H kvs l := h
theorem RepT.lst {v : V} {l : List D} (h : RepT W S H v (.lst l)) : ∃ a xs, v = .ref a ∧ H a = some (.lst xs) ∧ Reps W S H xs l := h
theorem Rep.tupv {v : V} {l : List D} (h : Rep W S H v (.tup l)) : ∃ a xs, v = .ref a ∧ SqT W.K H a xs ∧ Reps W S H xs l := by
  cases h with
  | tup hs ha hd hr => exact ⟨_, _, rfl, .inl (.inr ⟨_, ha⟩), hr⟩
  | ktup hk hr => exact ⟨_, _, rfl, .inr (let ⟨o, its, n, h1, h2, _, h3⟩ := hk; ⟨o, its, n, h1, h2, h3⟩), hr⟩
/-! ### the state -/
def isOwn (s : Option Slot) : Prop :=
  match s with
  | some (.ol _) => True
  | some (.od _) => True
  | _ => False
/-- an address that is nobody else's -/
def Own (W : Wd) (Z S : AS) (a : Addr) : Prop := ¬ S a ∧ ¬ Z a ∧ W.P ≠ some a
/-- the pool as it stands -/
def Pool0 (W : Wd) (H : Hp) (p : Addr) : Prop := ∃ (ns : List Int) (i x c z : Int), H p = some (.lst [.ref W.ps, .int i, .int x, .int c, .int z]) ∧ H W.ps = some (.lst (ns.map V.int)) ∧ 0 ≤ i
def PoolOk (W : Wd) (Z S : AS) (H : Hp) : Prop := ∀ p, W.P = some p → ¬ S p ∧ ¬ Z p ∧ S W.ps ∧ Pool0 W H p
structure R (W : Wd) (Z S : AS) (ρ : Wg.Env) (σ : L2.St) (H : Hp) : Prop where
  len : ρ.length = σ.length
  keep : ∀ (i : Nat) (v : V), W.keep i = some v → σ[i]? = some (some v)
  sh : ∀ (i : Nat) (d : D), ρ[i]? = some (.sh d) → ∃ v, σ[i]? = some (some v) ∧ Rep W S H v d
  ol : ∀ (i : Nat) (l : List D), ρ[i]? = some (.ol l) → ∃ a xs, σ[i]? = some (some (.ref a)) ∧ H a = some (.lst xs) ∧ Own W Z S a ∧ Reps W S H xs l
  od : ∀ (i : Nat) (l : List (D × D)), ρ[i]? = some (.od l) → ∃ a kvs, σ[i]? = some (some (.ref a)) ∧ H a = some (.dK kvs) ∧ Own W Z S a ∧ RepKs W S H kvs l
  dis : ∀ (i j : Nat) (a : Addr), isOwn ρ[i]? → isOwn ρ[j]? → σ[i]? = some (some (.ref a)) → σ[j]? = some (some (.ref a)) → i = j
  trk : ∀ a, S a ∨ Z a → H a ≠ none
  dz : ∀ a, S a → ¬ Z a
  pool : PoolOk W Z S H
/-- from one state to a later one -/
structure Ext (Z S : AS) (H : Hp) (S' : AS) (H' : Hp) : Prop where
  s : ∀ a, S a → S' a ∧ H' a = H a
  z : ∀ a, Z a → H' a = H a
theorem Ext.refl {Z S : AS} {H : Hp} : Ext Z S H S H := ⟨fun _ h => ⟨h, rfl⟩, fun _ _ => rfl⟩
theorem Ext.trans {Z S S1 S2 : AS} {H H1 H2 : Hp} (a : Ext Z S H S1 H1) (b : Ext Z S1 H1 S2 H2) : Ext Z S H S2 H2 :=
  ⟨fun x h => ⟨(b.s x (a.s x h).1).1, (b.s x (a.s x h).1).2.trans (a.s x h).2⟩, fun x h => (b.z x h).trans (a.z x h)⟩
/-- an address that no name owns -/
def NoOwn (ρ : Wg.Env) (σ : L2.St) (a : Addr) : Prop := ∀ i : Nat, isOwn ρ[i]? → σ[i]? ≠ some (some (.ref a))
/-- a value that an expression hands back -/
def RepS (W : Wd) (Z S : AS) (ρ : Wg.Env) (σ : L2.St) (H : Hp) (v : V) (s : Slot) : Prop :=
  match s with
  | .un => False
  | .sh d => Rep W S H v d
  | .ol l => ∃ a xs, v = .ref a ∧ H a = some (.lst xs) ∧ Own W Z S a ∧ NoOwn ρ σ a ∧ Reps W S H xs l
  | .od l => ∃ a kvs, v = .ref a ∧ H a = some (.dK kvs) ∧ Own W Z S a ∧ NoOwn ρ σ a ∧ RepKs W S H kvs l
def RepO (W : Wd) (S : AS) (σ : L2.St) (H : Hp) (v : V) (o : Opd) : Prop :=
  match o with
  | .r i => σ[i]? = some (some v)
  | .v d => Rep W S H v d
end
section
variable {W : Wd} {Z S S' : AS} {ρ ρ' : Wg.Env} {σ : L2.St} {H H' : Hp} {v : V} {p : Addr}
abbrev AS.and (S : AS) (p : Addr) : AS := fun a => S a ∨ a = p
theorem R.own_trk (r : R W Z S ρ σ H) {i : Nat} {a : Addr} (h : isOwn ρ[i]?) (e : σ[i]? = some (some (.ref a))) : H a ≠ none ∧ Own W Z S a := by
  unfold isOwn at h
  split at h
  · rename_i l e1
    obtain ⟨b, xs, h1, h2, h3, _⟩ := r.ol i l e1
    rw [e] at h1; cases h1
    exact ⟨by rw [h2]; simp, h3⟩
  · rename_i l e1
    obtain ⟨b, xs, h1, h2, h3, _⟩ := r.od i l e1
    rw [e] at h1; cases h1
    exact ⟨by rw [h2]; simp, h3⟩
  · exact h.elim
theorem R.noOwn_new (r : R W Z S ρ σ H) (h : H p = none) : NoOwn ρ σ p := fun i hi e => (r.own_trk hi e).1 h
theorem R.own_new (r : R W Z S ρ σ H) (h : H p = none) : Own W Z S p :=
  ⟨fun hs => r.trk p (.inl hs) h, fun hz => r.trk p (.inr hz) h, fun hp => by
    obtain ⟨_, _, _, ns, i, x, c, z, e, _⟩ := r.pool p hp
    rw [h] at e; cases e⟩
/-- the heap changes at an address that nobody knows -/
theorem R.upd (r : R W Z S ρ σ H) (hs : Own W Z S p) (hn : NoOwn ρ σ p) (o : HO) : R W Z S ρ σ (upd H p o) := by
  have ks : ∀ a, S a → S a ∧ (L2.upd H p o) a = H a := fun a h => ⟨h, upd_ne (fun e => hs.1 (e ▸ h))⟩
  refine ⟨r.len, r.keep, fun i d e => ?_, fun i l e => ?_, fun i l e => ?_, r.dis, fun a h => ?_, r.dz, fun q hq => ?_⟩
  · obtain ⟨v, h1, h2⟩ := r.sh i d e
    exact ⟨v, h1, Rep.mono ks _ _ h2⟩
  · obtain ⟨a, xs, h1, h2, h3, h4⟩ := r.ol i l e
    refine ⟨a, xs, h1, ?_, h3, Reps.mono ks _ _ h4⟩
    have ne : a ≠ p := by rintro rfl; exact hn i (by rw [e]; trivial) h1
    rw [upd_ne ne]
    exact h2
  · obtain ⟨a, xs, h1, h2, h3, h4⟩ := r.od i l e
    refine ⟨a, xs, h1, ?_, h3, RepKs.mono ks h4⟩
    have ne : a ≠ p := by rintro rfl; exact hn i (by rw [e]; trivial) h1
    rw [upd_ne ne]
    exact h2
  · by_cases e : a = p
    · rw [e, upd_same]; simp
    · rw [upd_ne e]; exact r.trk a h
  · obtain ⟨h1, h2, e2, ns, i, x, c, z, e1, e3, e4⟩ := r.pool q hq
    have n1 : q ≠ p := fun e => hs.2.2 (e ▸ hq)
    exact ⟨h1, h2, e2, ns, i, x, c, z, by rw [upd_ne n1]; exact e1, (ks _ e2).2.trans e3, e4⟩
theorem Ext.upd (hs : Own W Z S p) (o : HO) : Ext Z S H S (upd H p o) :=
  ⟨fun a h => ⟨h, upd_ne (fun e => hs.1 (e ▸ h))⟩, fun a h => upd_ne (fun e => hs.2.1 (e ▸ h))⟩
/-- an address becomes known -/
theorem R.share (r : R W Z S ρ σ H) (hs : Own W Z S p) (hn : NoOwn ρ σ p) (ht : H p ≠ none) : R W Z (AS.and S p) ρ σ H := by
  have ks : ∀ a, S a → AS.and S p a ∧ H a = H a := fun a h => ⟨.inl h, rfl⟩
  refine ⟨r.len, r.keep, fun i d e => ?_, fun i l e => ?_, fun i l e => ?_, r.dis, fun a h => ?_, fun a h => ?_, fun q hq => ?_⟩
  · obtain ⟨v, h1, h2⟩ := r.sh i d e
    exact ⟨v, h1, Rep.mono ks _ _ h2⟩
  · obtain ⟨a, xs, h1, h2, h3, h4⟩ := r.ol i l e
    refine ⟨a, xs, h1, h2, ⟨fun q => ?_, h3.2⟩, Reps.mono ks _ _ h4⟩
    rcases q with q | q
    · exact h3.1 q
    · subst q; exact hn i (by rw [e]; trivial) h1
  · obtain ⟨a, xs, h1, h2, h3, h4⟩ := r.od i l e
    refine ⟨a, xs, h1, h2, ⟨fun q => ?_, h3.2⟩, RepKs.mono ks h4⟩
    rcases q with q | q
    · exact h3.1 q
    · subst q; exact hn i (by rw [e]; trivial) h1
  · rcases h with (h | h) | h
    · exact r.trk a (.inl h)
    · subst h; exact ht
    · exact r.trk a (.inr h)
  · rcases h with h | h
    · exact r.dz a h
    · subst h; exact hs.2.1
  · obtain ⟨h1, h2, e2, q0⟩ := r.pool q hq
    refine ⟨fun k => ?_, h2, .inl e2, q0⟩
    rcases k with k | k
    · exact h1 k
    · subst k; exact hs.2.2 hq
theorem Ext.share : Ext Z S H (AS.and S p) H := ⟨fun _ h => ⟨.inl h, rfl⟩, fun _ _ => rfl⟩
/-- what an expression hands back may be known to all -/
theorem fin_val {s : Slot} (r : R W Z S ρ σ H) (h : RepS W Z S ρ σ H v s) : ∃ S', Ext Z S H S' H ∧ R W Z S' ρ σ H ∧ Rep W S' H v s.val := by
  cases s with
  | un => exact h.elim
  | sh d => exact ⟨S, .refl, r, h⟩
  | ol l =>
    obtain ⟨a, xs, rfl, h1, h2, h3, h4⟩ := h
    refine ⟨AS.and S a, .share, r.share h2 h3 (by rw [h1]; simp), .lst (.inr rfl) h1 (Reps.mono (fun a h => ⟨.inl h, rfl⟩) _ _ h4)⟩
  | od l =>
    obtain ⟨a, xs, rfl, h1, h2, h3, h4⟩ := h
    refine ⟨AS.and S a, .share, r.share h2 h3 (by rw [h1]; simp), .dct (.inr rfl) (.inl h1) (RepKs.mono (fun a h => ⟨.inl h, rfl⟩) h4)⟩
theorem RepO.ext {o : Opd} (k : Ext Z S H S' H') (h : RepO W S σ H v o) : RepO W S' σ H' v o := by
  cases o with
  | r i => exact h
  | v d => exact Rep.mono k.s _ _ h
/-- an operand's value -/
theorem RepO.get {o : Opd} {K : D → Prop} (r : R W Z S ρ σ H) (h : RepO W S σ H v o) (g : o.get ρ K) : ∃ d, K d ∧ RepT W S H v d := by
  cases o with
  | v d => exact ⟨d, g, Rep.top h⟩
  | r i =>
    have h' : σ[i]? = some (some v) := h
    have g' : (match ρ[i]? with
      | some (.sh d) => K d
      | some (.ol l) => K (.lst l)
      | some (.od l) => K (.dct l)
      | _ => False) := g
    split at g'
    · rename_i d e
      obtain ⟨u, h1, h2⟩ := r.sh i d e
      rw [h'] at h1; cases h1
      exact ⟨d, g', Rep.top h2⟩
    · rename_i l e
      obtain ⟨a, xs, h1, h2, h3, h4⟩ := r.ol i l e
      rw [h'] at h1; cases h1
      exact ⟨.lst l, g', a, xs, rfl, h2, h4⟩
    · rename_i l e
      obtain ⟨a, xs, h1, h2, h3, h4⟩ := r.od i l e
      rw [h'] at h1; cases h1
      exact ⟨.dct l, g', a, xs, rfl, .inl h2, h4⟩
    · exact g'.elim
/-- a slot takes a value -/
theorem R.set {s : Slot} {i : Nat} (r : R W Z S ρ σ H) (hk : W.keep i = none) (h : RepS W Z S ρ σ H v s) : R W Z S (ρ.set i s) (σ.set i (some v)) H := by
  have get : ∀ (j : Nat) (t : Slot), (ρ.set i s)[j]? = some t → (j = i ∧ t = s ∧ j < σ.length) ∨ (j ≠ i ∧ ρ[j]? = some t) := fun j t e => by
    rw [List.getElem?_set] at e
    split at e
    · rename_i hij
      split at e
      · rename_i hl
        cases e
        exact .inl ⟨hij.symm, rfl, by rw [← hij, ← r.len]; exact hl⟩
      · cases e
    · rename_i hij
      exact .inr ⟨fun q => hij q.symm, e⟩
  have own : ∀ j : Nat, isOwn (ρ.set i s)[j]? → (j = i ∧ isOwn (some s) ∧ j < σ.length) ∨ (j ≠ i ∧ isOwn ρ[j]?) := fun j e => by
    cases q : (ρ.set i s)[j]? with
    | none => rw [q] at e; exact e.elim
    | some t =>
      rw [q] at e
      rcases get j t q with ⟨a, b, c⟩ | ⟨a, b⟩
      · subst b; exact .inl ⟨a, e, c⟩
      · exact .inr ⟨a, by rw [b]; exact e⟩
  have new : ∀ a, isOwn (some s) → v = .ref a → NoOwn ρ σ a := fun a ho e => by
    cases s with
    | ol l =>
      obtain ⟨b, xs, e1, _, _, h4, _⟩ := h
      rw [e] at e1; cases e1
      exact h4
    | od l =>
      obtain ⟨b, xs, e1, _, _, h4, _⟩ := h
      rw [e] at e1; cases e1
      exact h4
    | sh d => exact ho.elim
    | un => exact ho.elim
  refine ⟨by rw [List.length_set, List.length_set]; exact r.len, fun j v e => by rw [List.getElem?_set_ne (fun q => by rw [← q, hk] at e; cases e)]; exact r.keep j v e, fun j d e => ?_, fun j l e => ?_, fun j l e => ?_, fun j k a h1 h2 e1 e2 => ?_, r.trk, r.dz, r.pool⟩
  · rcases get j _ e with ⟨rfl, e1, hl⟩ | ⟨ne, e1⟩
    · subst e1
      exact ⟨v, List.getElem?_set_self hl, h⟩
    · obtain ⟨w, h1, h2⟩ := r.sh j d e1
      exact ⟨w, by rw [List.getElem?_set_ne (Ne.symm ne)]; exact h1, h2⟩
  · rcases get j _ e with ⟨rfl, e1, hl⟩ | ⟨ne, e1⟩
    · subst e1
      obtain ⟨a, xs, rfl, q1, q2, _, q4⟩ := h
      exact ⟨a, xs, List.getElem?_set_self hl, q1, q2, q4⟩
    · obtain ⟨a, xs, h1, h2⟩ := r.ol j l e1
      exact ⟨a, xs, by rw [List.getElem?_set_ne (Ne.symm ne)]; exact h1, h2⟩
  · rcases get j _ e with ⟨rfl, e1, hl⟩ | ⟨ne, e1⟩
    · subst e1
      obtain ⟨a, xs, rfl, q1, q2, _, q4⟩ := h
      exact ⟨a, xs, List.getElem?_set_self hl, q1, q2, q4⟩
    · obtain ⟨a, xs, h1, h2⟩ := r.od j l e1
      exact ⟨a, xs, by rw [List.getElem?_set_ne (Ne.symm ne)]; exact h1, h2⟩
  · rcases own j h1 with ⟨rfl, o1, l1⟩ | ⟨n1, o1⟩
    · rcases own k h2 with ⟨rfl, _, _⟩ | ⟨n2, o2⟩
      · rfl
      · rw [List.getElem?_set_self l1] at e1
        rw [List.getElem?_set_ne (Ne.symm n2)] at e2
        cases e1
        exact (new a o1 rfl k o2 e2).elim
    · rw [List.getElem?_set_ne (Ne.symm n1)] at e1
      rcases own k h2 with ⟨rfl, o2, l2⟩ | ⟨n2, o2⟩
      · rw [List.getElem?_set_self l2] at e2
        cases e2
        exact (new a o2 rfl j o1 e1).elim
      · rw [List.getElem?_set_ne (Ne.symm n2)] at e2
        exact r.dis j k a o1 o2 e1 e2
/-- a name's list may be known elsewhere from now on -/
theorem R.freeze {i : Nat} {l : List D} (r : R W Z S ρ σ H) (e : ρ[i]? = some (.ol l)) : ∃ a, σ[i]? = some (some (.ref a)) ∧ Ext Z S H (AS.and S a) H ∧ R W Z (AS.and S a) (ρ.set i (.sh (.lst l))) σ H ∧ Rep W (AS.and S a) H (.ref a) (.lst l) := by
  obtain ⟨a, xs, h1, h2, h3, h4⟩ := r.ol i l e
  have ks : ∀ b, S b → AS.and S a b ∧ H b = H b := fun b h => ⟨.inl h, rfl⟩
  have rep : Rep W (AS.and S a) H (.ref a) (.lst l) := .lst (.inr rfl) h2 (Reps.mono ks _ _ h4)
  have hi : i < ρ.length := (List.getElem?_eq_some_iff.mp e).1
  have own : ∀ j : Nat, isOwn (ρ.set i (Slot.sh (.lst l)))[j]? → j ≠ i ∧ isOwn ρ[j]? := fun j o => by
    by_cases q : j = i
    · subst q
      rw [List.getElem?_set_self hi] at o
      exact o.elim
    · rw [List.getElem?_set_ne (Ne.symm q)] at o
      exact ⟨q, o⟩
  have nown : ∀ j, j ≠ i → isOwn ρ[j]? → σ[j]? ≠ some (some (.ref a)) := fun j q o z => q (r.dis j i a o (by rw [e]; trivial) z h1)
  refine ⟨a, h1, .share, ⟨by rw [List.length_set]; exact r.len, r.keep, fun j d q => ?_, fun j m q => ?_, fun j m q => ?_, fun j k b o1 o2 e1 e2 => r.dis j k b (own j o1).2 (own k o2).2 e1 e2, fun b h => ?_, fun b h => ?_, fun p hp => ?_⟩, rep⟩
  · by_cases c : j = i
    · subst c
      rw [List.getElem?_set_self hi] at q
      cases q
      exact ⟨_, h1, rep⟩
    · rw [List.getElem?_set_ne (Ne.symm c)] at q
      obtain ⟨w, g1, g2⟩ := r.sh j d q
      exact ⟨w, g1, Rep.mono ks _ _ g2⟩
  · by_cases c : j = i
    · subst c
      rw [List.getElem?_set_self hi] at q
      cases q
    · rw [List.getElem?_set_ne (Ne.symm c)] at q
      obtain ⟨b, ys, g1, g2, g3, g4⟩ := r.ol j m q
      refine ⟨b, ys, g1, g2, ⟨fun z => ?_, g3.2⟩, Reps.mono ks _ _ g4⟩
      rcases z with z | z
      · exact g3.1 z
      · subst z
        exact nown j c (by rw [q]; trivial) g1
  · by_cases c : j = i
    · subst c
      rw [List.getElem?_set_self hi] at q
      cases q
    · rw [List.getElem?_set_ne (Ne.symm c)] at q
      obtain ⟨b, ys, g1, g2, g3, g4⟩ := r.od j m q
      refine ⟨b, ys, g1, g2, ⟨fun z => ?_, g3.2⟩, RepKs.mono ks g4⟩
      rcases z with z | z
      · exact g3.1 z
      · subst z
        exact nown j c (by rw [q]; trivial) g1
  · rcases h with (h | h) | h
    · exact r.trk b (.inl h)
    · subst h; rw [h2]; simp
    · exact r.trk b (.inr h)
  · rcases h with h | h
    · exact r.dz b h
    · subst h; exact h3.2.1
  · obtain ⟨g1, g2, g3, g4⟩ := r.pool p hp
    refine ⟨fun z => ?_, g2, .inl g3, g4⟩
    rcases z with z | z
    · exact g1 z
    · subst z; exact h3.2.2 hp
/-- a name's list may be known elsewhere from now on -/
theorem R.freezeD {i : Nat} {l : List (D × D)} (r : R W Z S ρ σ H) (e : ρ[i]? = some (.od l)) : ∃ a, σ[i]? = some (some (.ref a)) ∧ Ext Z S H (AS.and S a) H ∧ R W Z (AS.and S a) (ρ.set i (.sh (.dct l))) σ H ∧ Rep W (AS.and S a) H (.ref a) (.dct l) := by
  obtain ⟨a, xs, h1, h2, h3, h4⟩ := r.od i l e
  have ks : ∀ b, S b → AS.and S a b ∧ H b = H b := fun b h => ⟨.inl h, rfl⟩
  have rep : Rep W (AS.and S a) H (.ref a) (.dct l) := .dct (.inr rfl) (.inl h2) (RepKs.mono ks h4)
  have hi : i < ρ.length := (List.getElem?_eq_some_iff.mp e).1
  have own : ∀ j : Nat, isOwn (ρ.set i (Slot.sh (.dct l)))[j]? → j ≠ i ∧ isOwn ρ[j]? := fun j o => by
    by_cases q : j = i
    · subst q
      rw [List.getElem?_set_self hi] at o
      exact o.elim
    · rw [List.getElem?_set_ne (Ne.symm q)] at o
      exact ⟨q, o⟩
  have nown : ∀ j, j ≠ i → isOwn ρ[j]? → σ[j]? ≠ some (some (.ref a)) := fun j q o z => q (r.dis j i a o (by rw [e]; trivial) z h1)
  refine ⟨a, h1, .share, ⟨by rw [List.length_set]; exact r.len, r.keep, fun j d q => ?_, fun j m q => ?_, fun j m q => ?_, fun j k b o1 o2 e1 e2 => r.dis j k b (own j o1).2 (own k o2).2 e1 e2, fun b h => ?_, fun b h => ?_, fun p hp => ?_⟩, rep⟩
  · by_cases c : j = i
    · subst c
      rw [List.getElem?_set_self hi] at q
      cases q
      exact ⟨_, h1, rep⟩
    · rw [List.getElem?_set_ne (Ne.symm c)] at q
      obtain ⟨w, g1, g2⟩ := r.sh j d q
      exact ⟨w, g1, Rep.mono ks _ _ g2⟩
  · by_cases c : j = i
    · subst c
      rw [List.getElem?_set_self hi] at q
      cases q
    · rw [List.getElem?_set_ne (Ne.symm c)] at q
      obtain ⟨b, ys, g1, g2, g3, g4⟩ := r.ol j m q
      refine ⟨b, ys, g1, g2, ⟨fun z => ?_, g3.2⟩, Reps.mono ks _ _ g4⟩
      rcases z with z | z
      · exact g3.1 z
      · subst z
        exact nown j c (by rw [q]; trivial) g1
  · by_cases c : j = i
    · subst c
      rw [List.getElem?_set_self hi] at q
      cases q
    · rw [List.getElem?_set_ne (Ne.symm c)] at q
      obtain ⟨b, ys, g1, g2, g3, g4⟩ := r.od j m q
      refine ⟨b, ys, g1, g2, ⟨fun z => ?_, g3.2⟩, RepKs.mono ks g4⟩
      rcases z with z | z
      · exact g3.1 z
      · subst z
        exact nown j c (by rw [q]; trivial) g1
  · rcases h with (h | h) | h
    · exact r.trk b (.inl h)
    · subst h; rw [h2]; simp
    · exact r.trk b (.inr h)
  · rcases h with h | h
    · exact r.dz b h
    · subst h; exact h3.2.1
  · obtain ⟨g1, g2, g3, g4⟩ := r.pool p hp
    refine ⟨fun z => ?_, g2, .inl g3, g4⟩
    rcases z with z | z
    · exact g1 z
    · subst z; exact h3.2.2 hp
end
end WgS
set_option Elab.async false
set_option linter.all false
set_option maxRecDepth 100000
/-! WgS: the data of Wg as the library's data. -/
namespace WgS
open PySem PySem.Spec PyProof.Rows L2
open Wg (D Slot Opd Ex Exs Tg Tgs It Kvs Sts BOp COp Blt Mth LB)
mutual
def toP : D → PyData
  | .non => .none
  | .bl b => .bool b
  | .int i => .int i
  | .str s => .str ⟨s.toArray⟩
  | .tup l => .tuple (toPs l)
  | .lst l => .list (toPs l)
  | .dct _ => .dict []
  | .fn _ _ => .dict []
  | .pool => .dict []
  | .scr _ _ => .dict []
def toPs : List D → List PyData
  | [] => []
  | x :: xs => toP x :: toPs xs
end
theorem toPs_map : ∀ l : List D, toPs l = l.map toP
  | [] => by rw [toPs]; rfl
  | x :: xs => by rw [toPs, toPs_map xs]; rfl
theorem str_beq (a b : List Nat) : ((⟨a.toArray⟩ : Str) == ⟨b.toArray⟩) = (a == b) := by
  rw [Bool.eq_iff_iff]
  simp
mutual
theorem eqv_toP : ∀ a b : D, PyData.eqv (toP a) (toP b) = D.eqv a b
  | .non, b => by cases b <;> simp [toP, PyData.eqv, D.eqv]
  | .bl _, b => by cases b <;> simp [toP, PyData.eqv, D.eqv]
  | .int _, b => by cases b <;> simp [toP, PyData.eqv, D.eqv]
  | .str s, b => by
    cases b with
    | str z => simp only [toP, PyData.eqv, D.eqv]; exact str_beq s z
    | _ => simp [toP, PyData.eqv, D.eqv]
  | .tup l, b => by
    cases b with
    | tup m => simp only [toP, PyData.eqv, D.eqv]; exact eqv_toPs l m
    | _ => simp [toP, PyData.eqv, D.eqv]
  | .lst l, b => by
    cases b with
    | lst m => simp only [toP, PyData.eqv, D.eqv]; exact eqv_toPs l m
    | _ => simp [toP, PyData.eqv, D.eqv]
  | .dct _, b => by cases b <;> simp [toP, PyData.eqv, D.eqv]
  | .fn _ _, b => by cases b <;> simp [toP, PyData.eqv, D.eqv]
  | .pool, b => by cases b <;> simp [toP, PyData.eqv, D.eqv]
  | .scr _ _, b => by cases b <;> simp [toP, PyData.eqv, D.eqv]
theorem eqv_toPs : ∀ a b : List D, PyData.eqvAll (toPs a) (toPs b) = D.eqvs a b
  | [], [] => by simp [toPs, PyData.eqvAll, D.eqvs]
  | [], _ :: _ => by simp [toPs, PyData.eqvAll, D.eqvs]
  | _ :: _, [] => by simp [toPs, PyData.eqvAll, D.eqvs]
  | x :: xs, y :: ys => by rw [toPs, toPs, PyData.eqvAll, D.eqvs, eqv_toP x y, eqv_toPs xs ys]
end
mutual
theorem pl_toP : ∀ (n : Nat) (d : D), D.pl n d = true → (toP d).canLay0 = true ∧ (toP d).depth ≤ n
  | n, .non, _ => by simp [toP, PyData.canLay0, PyData.depth]
  | n, .bl _, _ => by simp [toP, PyData.canLay0, PyData.depth]
  | n, .int _, _ => by simp [toP, PyData.canLay0, PyData.depth]
  | n, .str s, h => by
    refine ⟨?_, by simp [toP, PyData.depth]⟩
    have h' : (s.all fun c => decide (c < 1114112)) = true := by simpa [D.pl] using h
    simp only [toP, PyData.canLay0, PyData.strOk]
    simpa using h'
  | 0, .tup l, h => by simp [D.pl] at h
  | n + 1, .tup l, h => by
    have h' : D.pls n l = true := by simpa [D.pl] using h
    obtain ⟨h1, h2⟩ := pls_toP n l h'
    simp only [toP, PyData.canLay0, PyData.depth]
    exact ⟨h1, by omega⟩
  | 0, .lst l, h => by simp [D.pl] at h
  | n + 1, .lst l, h => by
    have h' : D.pls n l = true := by simpa [D.pl] using h
    obtain ⟨h1, h2⟩ := pls_toP n l h'
    simp only [toP, PyData.canLay0, PyData.depth]
    exact ⟨h1, by omega⟩
  | n, .dct _, h => by cases n <;> simp [D.pl] at h
  | n, .fn _ _, h => by cases n <;> simp [D.pl] at h
  | n, .pool, h => by cases n <;> simp [D.pl] at h
  | n, .scr _ _, h => by cases n <;> simp [D.pl] at h
theorem pls_toP : ∀ (n : Nat) (l : List D), D.pls n l = true → PyData.canLayAll0 (toPs l) = true ∧ PyData.depthAll (toPs l) ≤ n
  | n, [], _ => by simp [toPs, PyData.canLayAll0, PyData.depthAll]
  | n, x :: xs, h => by
    have h' : D.pl n x = true ∧ D.pls n xs = true := by simpa [D.pls] using h
    obtain ⟨a1, a2⟩ := pl_toP n x h'.1
    obtain ⟨b1, b2⟩ := pls_toP n xs h'.2
    simp only [toPs, PyData.canLayAll0, PyData.depthAll]
    exact ⟨by rw [a1, b1]; rfl, by omega⟩
end
theorem pl_shaped {d : D} (h : D.pl 9 d = true) : SeqAt.shaped (toP d) = true := by
  obtain ⟨a, b⟩ := pl_toP 9 d h
  unfold SeqAt.shaped
  rw [a, decide_eq_true (by omega : (toP d).depth ≤ 64)]
  rfl
theorem pls_shaped {l : List D} (h : D.pls 9 l = true) : SeqAt.shaped (.list (toPs l)) = true := by
  obtain ⟨a, b⟩ := pls_toP 9 l h
  have e : (PyData.list (toPs l)).depth ≤ 64 := by simp only [PyData.depth]; omega
  have e1 : (PyData.list (toPs l)).canLay0 = true := by simp only [PyData.canLay0]; exact a
  unfold SeqAt.shaped
  rw [e1, decide_eq_true e]
  rfl
mutual
theorem alike_toP : ∀ a b : D, D.alike a b = true → PySem.W.alike (toP a) (toP b) = true
  | .non, b, h => by cases b <;> simp_all [toP, PySem.W.alike, D.alike]
  | .bl _, b, h => by cases b <;> simp_all [toP, PySem.W.alike, D.alike]
  | .int _, b, h => by cases b <;> simp_all [toP, PySem.W.alike, D.alike]
  | .str s, b, h => by cases b <;> simp_all [toP, PySem.W.alike, D.alike]
  | .tup l, b, h => by
    cases b with
    | tup m => simp only [toP, PySem.W.alike, D.alike] at h ⊢; exact alikes_toP l m h
    | _ => simp [D.alike] at h
  | .lst l, b, h => by
    cases b with
    | lst m => simp only [toP, PySem.W.alike, D.alike] at h ⊢; exact alikes_toP l m h
    | _ => simp [D.alike] at h
  | .dct _, b, h => by cases b <;> simp [D.alike] at h
  | .fn _ _, b, h => by cases b <;> simp [D.alike] at h
  | .pool, b, h => by cases b <;> simp [D.alike] at h
  | .scr _ _, b, h => by cases b <;> simp [D.alike] at h
theorem alikes_toP : ∀ a b : List D, D.alikes a b = true → PySem.W.alikeAll (toPs a) (toPs b) = true
  | [], b, _ => by rw [toPs]; cases (toPs b) <;> simp [PySem.W.alikeAll]
  | x :: xs, [], _ => by simp [toPs, PySem.W.alikeAll]
  | x :: xs, y :: ys, h => by
    have h' : D.alike x y = true ∧ D.alikes xs ys = true := by simpa [D.alikes] using h
    simp only [toPs, PySem.W.alikeAll, Bool.and_eq_true]
    exact ⟨alike_toP x y h'.1, alikes_toP xs ys h'.2⟩
end
mutual
theorem alike_comm : ∀ a b : D, D.alike a b = D.alike b a
  | .non, b => by cases b <;> simp [D.alike]
  | .bl _, b => by cases b <;> simp [D.alike]
  | .int _, b => by cases b <;> simp [D.alike]
  | .str _, b => by cases b <;> simp [D.alike]
  | .tup l, b => by
    cases b with
    | tup m => simp only [D.alike]; exact alikes_comm l m
    | _ => simp [D.alike]
  | .lst l, b => by
    cases b with
    | lst m => simp only [D.alike]; exact alikes_comm l m
    | _ => simp [D.alike]
  | .dct _, b => by cases b <;> simp [D.alike]
  | .fn _ _, b => by cases b <;> simp [D.alike]
  | .pool, b => by cases b <;> simp [D.alike]
  | .scr _ _, b => by cases b <;> simp [D.alike]
theorem alikes_comm : ∀ a b : List D, D.alikes a b = D.alikes b a
  | [], [] => rfl
  | [], _ :: _ => by simp [D.alikes]
  | _ :: _, [] => by simp [D.alikes]
  | x :: xs, y :: ys => by rw [D.alikes, D.alikes, alike_comm x y, alikes_comm xs ys]
end
theorem ltNs_lt : ∀ a b : List Nat, Wg.ltNs a b = decide (a < b)
  | [], [] => by simp [Wg.ltNs]
  | [], _ :: _ => by simp [Wg.ltNs]
  | _ :: _, [] => by simp [Wg.ltNs]
  | x :: xs, y :: ys => by
    rw [Wg.ltNs, ltNs_lt xs ys]
    by_cases h : x = y
    · subst h
      simp
    · rw [if_neg h]
      simp [List.cons_lt_cons_iff, h]
mutual
theorem lt_toP : ∀ a b : D, D.alike a b = true → PySem.W.dataLt (toP a) (toP b) = D.lt a b
  | .non, b, h => by
    cases b <;> simp [D.alike] at h
    simp only [toP, D.lt]
    exact PySem.W.dataLt_self _
  | .bl x, b, h => by
    cases b with
    | bl y =>
      simp only [toP, D.lt]
      rw [PySem.W.dataLt_bool]
      cases x <;> cases y <;> rfl
    | _ => simp [D.alike] at h
  | .int x, b, h => by
    cases b with
    | int y => simp only [toP, D.lt]; exact PySem.W.dataLt_int x y
    | _ => simp [D.alike] at h
  | .str x, b, h => by
    cases b with
    | str y =>
      simp only [toP, D.lt]
      rw [PySem.W.dataLt_str, ltNs_lt]
    | _ => simp [D.alike] at h
  | .tup l, b, h => by
    cases b with
    | tup m =>
      simp only [toP, D.lt, D.alike] at h ⊢
      rw [PySem.W.dataLt_tuple]
      exact lts_toP l m h
    | _ => simp [D.alike] at h
  | .lst l, b, h => by
    cases b with
    | lst m =>
      simp only [toP, D.lt, D.alike] at h ⊢
      rw [PySem.W.dataLt_list]
      exact lts_toP l m h
    | _ => simp [D.alike] at h
  | .dct _, b, h => by cases b <;> simp [D.alike] at h
  | .fn _ _, b, h => by cases b <;> simp [D.alike] at h
  | .pool, b, h => by cases b <;> simp [D.alike] at h
  | .scr _ _, b, h => by cases b <;> simp [D.alike] at h
theorem lts_toP : ∀ a b : List D, D.alikes a b = true → PyProof.Rows.lexLt PyProof.Rows.itemOrd (PySem.W.keyToksAll (toPs a)) (PySem.W.keyToksAll (toPs b)) = D.lts a b
  | [], [], _ => by rw [D.lts]; exact PyProof.Rows.lex_irrefl _
  | [], y :: ys, _ => by
    rw [D.lts, toPs, toPs, PySem.W.keyToksAll, PySem.W.toks_all_cons]
    rfl
  | x :: xs, [], _ => by
    rw [D.lts, toPs, toPs, PySem.W.keyToksAll, PySem.W.toks_all_cons]
    rfl
  | x :: xs, y :: ys, h => by
    have h' : D.alike x y = true ∧ D.alikes xs ys = true := by simpa [D.alikes] using h
    rw [toPs, toPs, D.lts]
    cases e : D.eqv x y with
    | true =>
      rw [if_pos rfl, PySem.W.dataLt_all_yes (alike_toP x y h'.1) (by rw [eqv_toP]; exact e)]
      exact lts_toP xs ys h'.2
    | false =>
      rw [if_neg (by simp), PySem.W.dataLt_all_no (alike_toP x y h'.1) (by rw [eqv_toP]; exact e)]
      exact lt_toP x y h'.1
end
theorem nn_toP {d : D} (h : D.eqv d .non = false) : toP d ≠ .none := by
  intro e
  have q := eqv_toP d .non
  rw [e] at q
  rw [h] at q
  simp [toP, PyData.eqv] at q
section
variable {W : Wd} {S : AS} {H : Hp}
mutual
theorem Rep.dp : ∀ (n : Nat) (d : D) (v : V), Rep W S H v d → D.pl n d = true → Dp W.K H v (toP d)
  | _, .non, _, h, _ => by cases h; rw [toP]; exact .non
  | _, .bl _, _, h, _ => by cases h; rw [toP]; exact .bl _
  | _, .int _, _, h, _ => by cases h; rw [toP]; exact .int _
  | _, .str _, _, h, _ => by cases h; rw [toP]; exact .str _
  | 0, .tup l, _, _, p => by simp [D.pl] at p
  | n + 1, .tup l, _, h, p => by
    obtain ⟨a, xs, rfl, h1, h2⟩ := Rep.tupv h
    rw [toP]
    exact .tup h1 (Reps.dp n l xs h2 (by simpa [D.pl] using p))
  | 0, .lst l, _, _, p => by simp [D.pl] at p
  | n + 1, .lst l, _, h, p => by
    cases h with
    | lst hs ha hr =>
      rw [toP]
      exact .lst (SqL.of ha) (Reps.dp n l _ hr (by simpa [D.pl] using p))
  | n, .dct _, _, _, p => by cases n <;> simp [D.pl] at p
  | n, .fn _ _, _, _, p => by cases n <;> simp [D.pl] at p
  | n, .pool, _, _, p => by cases n <;> simp [D.pl] at p
  | n, .scr _ _, _, _, p => by cases n <;> simp [D.pl] at p
theorem Reps.dp : ∀ (n : Nat) (l : List D) (vs : List V), Reps W S H vs l → D.pls n l = true → DpAll W.K H vs (toPs l)
  | _, [], _, h, _ => by cases h; rw [toPs]; exact .nil
  | n, x :: xs, _, h, p => by
    have p' : D.pl n x = true ∧ D.pls n xs = true := by simpa [D.pls] using p
    cases h with
    | cons h1 h2 => rw [toPs]; exact .cons (Rep.dp n x _ h1 p'.1) (Reps.dp n xs _ h2 p'.2)
end
theorem RepT.dp {n : Nat} {d : D} {v : V} (h : RepT W S H v d) (p : D.pl n d = true) : Dp W.K H v (toP d) := by
  cases d with
  | lst l =>
    obtain ⟨a, xs, rfl, h1, h2⟩ := h
    cases n with
    | zero => simp [D.pl] at p
    | succ n => rw [toP]; exact .lst (SqL.of h1) (Reps.dp n l xs h2 (by simpa [D.pl] using p))
  | dct l => cases n <;> simp [D.pl] at p
  | _ => exact Rep.dp n _ v h p
end
end WgS
set_option Elab.async false
set_option linter.all false
set_option maxRecDepth 100000
/-! WgS: dicts whose keys are ints and texts. -/
namespace WgS
open PySem PySem.Spec PyProof.Rows L2
open Wg (D Slot Opd Ex Exs Tg Tgs It Kvs Sts BOp COp Blt Mth LB)
section
variable {W : Wd} {S S' : AS} {H H' : Hp}
theorem Rep.key {k : Key} {v : V} (h : Rep W S H v (keyD k)) : v = kV k := by
  cases k with
  | inl i => cases h; rfl
  | inr x => cases h; rfl
theorem rep_key (k : Key) : Rep W S H (kV k) (keyD k) := by
  cases k with
  | inl i => exact .int i
  | inr x => exact .str x.cps.toList
theorem leaf_key {d : D} (h : D.leaf d = true) : ∃ k, d = keyD k := by
  cases d with
  | int i => exact ⟨.inl i, rfl⟩
  | str s => exact ⟨.inr ⟨s.toArray⟩, by simp [keyD]⟩
  | _ => cases h
theorem leaf_keyD (k : Key) : D.leaf (keyD k) = true := by cases k <;> rfl
theorem eqv_keyD (a b : Key) : D.eqv (keyD a) (keyD b) = decide (a = b) := by
  cases a with
  | inl i =>
    cases b with
    | inl j =>
      show (i == j) = _
      rw [Bool.eq_iff_iff]
      simp
    | inr y => rfl
  | inr x =>
    cases b with
    | inl j => rfl
    | inr y =>
      show (x.cps.toList == y.cps.toList) = _
      rw [Bool.eq_iff_iff]
      simp only [beq_iff_eq, decide_eq_true_eq, Sum.inr.injEq]
      constructor
      · intro h
        cases x; cases y
        simp at h
        rw [h]
      · intro h; rw [h]
theorem lookD_cons (p : D × D) (ps : List (D × D)) (k : D) : Wg.lookD (p :: ps) k = if D.eqv p.1 k then some p.2 else Wg.lookD ps k := by rw [Wg.lookD]
theorem RepKs.look : ∀ {kvs : List (Key × V)} {l : List (D × D)}, RepKs W S H kvs l → ∀ k : Key, (Wg.lookD l (keyD k) = none ∧ valV kvs k = none) ∨ ∃ d v, Wg.lookD l (keyD k) = some d ∧ valV kvs k = some v ∧ Rep W S H v d
  | _, _, .nil, k => .inl ⟨rfl, rfl⟩
  | _, _, .cons (k := k0) (v := v0) (kvs := kvs) (d := d0) (ds := ds) r t, k => by
    rw [lookD_cons, eqv_keyD]
    by_cases e : k0 = k
    · subst e
      rw [if_pos (by simp), valV_pos (by rfl)]
      exact .inr ⟨_, _, rfl, rfl, r⟩
    · rw [if_neg (by simpa using e), valV_neg (by exact e)]
      exact RepKs.look t k
theorem RepKs.isSome {kvs : List (Key × V)} {l : List (D × D)} (h : RepKs W S H kvs l) (k : Key) : (Wg.lookD l (keyD k)).isSome = (valV kvs k).isSome := by
  rcases h.look k with ⟨a, b⟩ | ⟨d, v, a, b, _⟩ <;> rw [a, b] <;> rfl
theorem RepKs.repl {k : Key} {v : V} {d : D} (r : Rep W S H v d) : ∀ {kvs : List (Key × V)} {l : List (D × D)}, RepKs W S H kvs l → RepKs W S H (kvs.map fun kv => if kv.1 = k then (kv.1, v) else kv) (l.map fun p => if D.eqv p.1 (keyD k) then (p.1, d) else p)
  | _, _, .nil => .nil
  | _, _, .cons (k := k0) r0 t => by
    rw [List.map_cons, List.map_cons]
    show RepKs W S H ((if k0 = k then _ else _) :: _) ((if D.eqv (keyD k0) (keyD k) = true then _ else _) :: _)
    rw [eqv_keyD]
    by_cases e : k0 = k
    · rw [if_pos e, if_pos (by simpa using e)]
      exact .cons r (RepKs.repl r t)
    · rw [if_neg e, if_neg (by simpa using e)]
      exact .cons r0 (RepKs.repl r t)
theorem RepKs.snoc {k : Key} {v : V} {d : D} (r : Rep W S H v d) : ∀ {kvs : List (Key × V)} {l : List (D × D)}, RepKs W S H kvs l → RepKs W S H (kvs ++ [(k, v)]) (l ++ [(keyD k, d)])
  | _, _, .nil => .cons r .nil
  | _, _, .cons r0 t => .cons r0 (RepKs.snoc r t)
theorem RepKs.put {kvs : List (Key × V)} {l : List (D × D)} {k : Key} {v : V} {d : D} (h : RepKs W S H kvs l) (r : Rep W S H v d) : RepKs W S H (putK kvs k v) (Wg.putD l (keyD k) d) := by
  unfold putK Wg.putD
  rw [valV_any, h.isSome k]
  split
  · exact h.repl r
  · exact h.snoc r
theorem RepKs.keys : ∀ {kvs : List (Key × V)} {l : List (D × D)}, RepKs W S H kvs l → Reps W S H (kvs.map fun kv => kV kv.1) (l.map (·.1))
  | _, _, .nil => .nil
  | _, _, .cons _ t => .cons (rep_key _) (RepKs.keys t)
theorem RepKs.leafs : ∀ {kvs : List (Key × V)} {l : List (D × D)}, RepKs W S H kvs l → (l.all fun p => D.leaf p.1) = true
  | _, _, .nil => rfl
  | _, _, .cons (k := k) _ t => by rw [List.all_cons, RepKs.leafs t]; show (D.leaf (keyD k) && true) = true; rw [leaf_keyD]; rfl
theorem RepKs.merge : ∀ {more : List (Key × V)} {m : List (D × D)}, RepKs W S H more m → ∀ {kvs : List (Key × V)} {l : List (D × D)}, RepKs W S H kvs l → RepKs W S H (mergeK kvs more) (Wg.putAll l m)
  | _, _, .nil, _, _, h => h
  | _, _, .cons r t, _, _, h => RepKs.merge t (h.put r)
/-- the keys of a dict, as a list: the dict may be locked -/
theorem call_keysR {X : Cx} (calm : X.calm = true) : CallR X (.type "list") (fun zs G R => ∃ d ks, zs = [.ref d] ∧ Rd G d (.dK ks) ∧ ∀ b, G b = none → R (.ref b) (upd G b (.lst (ks.map fun q => kV q.1)))) := by
  intro pins st σ G zs us R J rz ⟨d, ks, ez, hd, go⟩
  subst ez
  obtain ⟨u, rfl, ru⟩ := vals1 rz
  cases (show u = Value.ref d from ru)
  obtain ⟨few, low, ws, rel, isd⟩ := dk_rd J.hok hd
  obtain ⟨ep, at1⟩ := isd.dictAt
  have len : ks.length = ws.length := rel.length
  have few' : ws.length ≤ sizeLine := len ▸ few
  refine W.kdl_call (W.kdl_dict (knd := mixKind X.prog X.w) (kvs := ws) (ep := ep) low) (J.ok.hd calm) at1 few' fun h2 t2 acc c stays new said => ?_
  have names : (ks.map fun q => kV q.1) = (ks.map (·.1)).map kV := by rw [List.map_map]; rfl
  have rel2 : Vals (ks.map fun q => kV q.1) acc.toList := by
    refine vals_of_at (by
      have e9 : acc.toList.length = ws.length := by rw [Array.length_toList, said.1]
      rw [List.length_map, e9, len]) fun j x v e1 e2 => ?_
    rw [Array.getElem?_toList] at e2
    obtain ⟨k, y, at2, is⟩ := said.2 j v e2
    have e3 : (ks.map (·.1))[j]? = some k := by rw [rel.keys, List.getElem?_map, at2]; rfl
    rw [names, List.getElem?_map, e3] at e1
    cases e1
    exact keyIs_rel is
  have obj : ObjOk X.prog X.w (upd G st.heap.objs.size (.lst (ks.map fun q => kV q.1))) h2 st.heap.objs.size (.lst (ks.map fun q => kV q.1)) :=
    ⟨by rw [List.length_map]; exact few, acc.toList, c, rel2, by rw [Array.toArray_toList]; exact new⟩
  exact ⟨.ref st.heap.objs.size, _, J.laid stays (Nat.le_refl _) obj, rfl, go _ (J.hok.fresh (Nat.le_refl _))⟩
/-- d[k], by values -/
theorem ix_dct {X : Cx} (hu : X.A.units + 65 < cLine) : IxR X (fun x y G R => ∃ d ks k v, x = .ref d ∧ y = kV k ∧ Rd G d (.dK ks) ∧ valV ks k = some v ∧ R v G) := by
  intro ex sl pins st σ G x y p q R J rx ry ⟨d, ks, k, v, e1, e2, hd, hv, go⟩ plain
  subst e1 e2
  cases (show p = Value.ref d from rx)
  have dg : DGet G d (kV k) (some v) := .inl ⟨ks, k, hd, rfl, hv.symm⟩
  have ty := dict_typeIs J dg
  have item : wpAny (model X.prog X.w) X.A (getItem (.ref d) q) (EP X pins σ R) X.xe st := d_getItem (by omega) J dg ry fun z s2 J2 rz => ⟨v, G, J2, rz, go⟩
  have whole : wpAny (model X.prog X.w) X.A (subscripted sl false (.ref d) q) (fun z s2 => wpAny (model X.prog X.w) X.A (letTemporaryGo ex (.ref d) z >>= fun _ => pure z) (EP X pins σ R) X.xe s2) X.xe st := by
    rw [plain]
    exact wpAny_operating (wpAny_mono item (fun z s2 h2 => wpAny_bind (wpAny_letTemporaryGo (wpAny_pure h2))) fun _ _ h => h)
  unfold subscriptTail
  refine wpAny_bind ?_
  rw [getitemInPython_of_ne ty.not_modules]
  refine wpAny_bind (wpAny_specialOf ty PySem.F.slot_dict_getitem.lookup ?_)
  first
    | exact wpAny_bind (wpAny_pure (wpAny_bind whole))
    | exact wpAny_pure (wpAny_bind whole)
    | exact wpAny_bind whole
/-- a key of a leaf's kind -/
theorem keysOk_key {l : List (D × D)} {k : D} (h : Wg.keysOk l k = true) : ∃ q, k = keyD q := by
  unfold Wg.keysOk at h
  simp only [Bool.and_eq_true] at h
  exact leaf_key h.1
theorem RepT.key {k : Key} {v : V} (h : RepT W S H v (keyD k)) : v = kV k := by
  cases k with
  | inl i => have h : Rep W S H v (.int i) := h; cases h; rfl
  | inr x => have h : Rep W S H v (.str x.cps.toList) := h; cases h; rfl
end
end WgS
set_option Elab.async false
set_option linter.all false
set_option maxRecDepth 100000
/-! WgS: tuple * int, whatever the int. -/
namespace WgS
open PySem PySem.Spec PyProof.Rows L2
theorem tuple_mul_same (l : Addr) (items : Array Value) (n : Nat) (dd : Option Addr) (sl : Array (Option Value)) (x : Int) (u : Tok) (c0 : (decide (x < -(2 ^ 63)) || decide (x ≥ 2 ^ 63)) = false) (c1 : (items.isEmpty || x == 1) = true) :
    Meets (Builtin.«tuple.__mul__» ⟨[.ref l, .int x u], []⟩) (fun _ R s => s.heap.get? l = some { cls := .type "tuple", dict := dd, data := .seq items n, slots := sl } ∧ R (.ok (.ret (Value.ref l))) s) :=
  .of_wp fun prog w A R s h => by
    obtain ⟨hp, g, d, tk, os⟩ := s
    obtain ⟨hl, h⟩ := h
    have f1 := AutoSeq1.idx_int
    wp_walk using wpAny_loadPart' hl
    repeat (first
      | (refine wpAny_ite_false (decide_eq_false (by rw [c0]; exact Bool.false_ne_true)) ?_; wp_walk using wpAny_loadPart' hl)
      | (refine wpAny_ite_true (decide_eq_true (by rw [c1])) ?_; wp_walk using wpAny_loadPart' hl))
    exact ⟨_, rfl, h⟩
theorem tuple_mul_none (l : Addr) (items : Array Value) (n : Nat) (dd : Option Addr) (sl : Array (Option Value)) (x : Int) (u : Tok) (c0 : (decide (x < -(2 ^ 63)) || decide (x ≥ 2 ^ 63)) = false) (c1 : (items.isEmpty || x == 1) = false) (c2 : (decide (x ≤ 0) || items.isEmpty) = true) :
    Meets (Builtin.«tuple.__mul__» ⟨[.ref l, .int x u], []⟩) (fun _ R s => s.heap.get? l = some { cls := .type "tuple", dict := dd, data := .seq items n, slots := sl } ∧
      R (.ok (.ret (Value.ref s.heap.objs.size))) { s with heap := s.heap.push { cls := Value.type "tuple", data := Data.seq #[] }, toks := s.toks }) :=
  .of_wp fun prog w A R s h => by
    obtain ⟨hp, g, d, tk, os⟩ := s
    obtain ⟨hl, h⟩ := h
    have f1 := AutoSeq1.idx_int
    wp_walk using wpAny_loadPart' hl
    repeat (first
      | (refine wpAny_ite_false (decide_eq_false (by rw [c0]; exact Bool.false_ne_true)) ?_; wp_walk using wpAny_loadPart' hl)
      | (refine wpAny_ite_false (decide_eq_false (by rw [c1]; exact Bool.false_ne_true)) ?_; wp_walk using wpAny_loadPart' hl)
      | (refine wpAny_ite_true (decide_eq_true (by rw [c2])) ?_; wp_walk using wpAny_loadPart' hl))
    exact ⟨_, rfl, h⟩
def rRepTA (K : PySem.W.Frag) : R2 := fun x y H Q => ∃ l k xs, x = .ref l ∧ y = .int k ∧ SqT K H l xs ∧ -1000 ≤ k ∧ k ≤ 1000 ∧ xs.length ≤ 1000 ∧
  ((List.replicate k.toNat xs).flatten = xs → Q (.ref l) H) ∧ ∀ p ob, ob.dict = none → H p = none → Q (.ref p) (upd H p (.frz ob (.tup (List.replicate k.toNat xs).flatten)))
/-- a tuple just made, tracked with its own object -/
theorem laidT {X : Cx} {pins : List (Addr × Obj)} {σ : L2.St} {H : Hp} {s : Shared} {xs : List V} {its : List Value} {t' : Nat} (I : Inv X pins σ H s) (r : Vals xs its) (hz : xs.length ≤ sizeLine) :
    Inv X pins σ (upd H s.heap.objs.size (.frz { cls := .type "tuple", data := .seq its.toArray } (.tup xs))) { s with heap := s.heap.push { cls := .type "tuple", data := .seq its.toArray }, toks := t' } :=
  I.laid (fun b ob q => Heap.get?_push_of_some _ q) (Nat.le_refl _) ⟨Heap.get?_push_size _ rfl, hz, its, r, IsTup.new _ _⟩
section
variable {X : Cx}
theorem op_repTA : OpR X (binaryOp .Mult) (rRepTA X.K) := by
  intro pins s σ H x y v u Q I rx ry h
  obtain ⟨l, k, xs, rfl, rfl, hT, h1, h2, hz, q0, q⟩ := h
  cases rx
  obtain ⟨t, rfl⟩ := ry
  obtain ⟨its, r, ⟨⟨cls, dd, data, sl⟩, ho, hc, n, hd⟩, hs⟩ := I.tuple hT
  simp only at hc hd
  subst hc hd
  have hle : its.length = xs.length := r.length.symm
  have flen : (List.replicate k.toNat its).flatten.length ≤ sizeLine := by
    rw [PyProof.Rows.lm_len_rep_flat, hle, sizeLine_eq]
    have a1 : k.toNat * xs.length ≤ 1000 * 1000 := Nat.mul_le_mul (by omega) hz
    omega
  by_cases hx : xs ≠ [] ∧ 2 ≤ k
  · obtain ⟨hne, h1⟩ := hx
    have hn : its ≠ [] := fun e => hne (by
      rw [e] at hle
      exact List.eq_nil_of_length_eq_zero hle.symm)
    have hi : its.toArray.isEmpty = false := by
      cases its with
      | nil => exact absurd rfl hn
      | cons a b => rfl
    have hsz0 : its.toArray.size = xs.length := by rw [List.size_toArray, hle]
    have hm : ((its.toArray.size : Nat) : Int) * k ≤ 1000000 := by
      rw [hsz0]
      have a1 : ((xs.length : Nat) : Int) * k ≤ 1000 * k := Int.mul_le_mul_of_nonneg_right (by omega) (by omega)
      omega
    have c0 : (decide (k < -(2 ^ 63)) || decide (k ≥ 2 ^ 63)) = false := by
      rw [decide_eq_false (by omega), decide_eq_false (by omega)] <;> rfl
    have c1 : (its.toArray.isEmpty || k == 1) = false := by
      rw [hi, Bool.false_or]
      exact beq_eq_false_iff_ne.mpr (by omega)
    have c2 : (decide (k ≤ 0) || its.toArray.isEmpty) = false := by
      rw [hi, Bool.or_false]
      exact decide_eq_false (by omega)
    have c4 : Builtin.Tuple.tupleTooMany (((its.toArray.size : Nat) : Int) * k) = false := by
      unfold Builtin.Tuple.tupleTooMany
      rw [sizeLine_eq]
      exact decide_eq_false (by omega)
    refine wpAny_binaryOp_repeat_ref (T := "tuple") (U := "int") (by decide) ⟨_, ho, rfl⟩ (fun s' => typeIs_int s' k t) noFill_tuple_mul F.fills_int_mul F.slot_int_rmul repeat_tuple F.slot_int_index.lookup
      (call_meets F.slot_int_rmul (typeIs_int s k t) F.entry_int_rmul (F.args_int_rmul_2 _ _) (int_rmul_tuple k t l its.toArray n dd sl)
        ⟨ho, rfl, ⟨_, ho, rfl⟩, call_meets F.slot_tuple_mul ⟨_, ho, rfl⟩ F.entry_tuple_mul (F.args_tuple_mul_2 _ _) (tuple_mulW l its.toArray n dd sl k t c0 c1 c2 (by omega) c4 (by rw [size_rep, List.size_toArray]; exact flen)) ⟨ho, ?_⟩⟩)
    rw [size_rep]
    exact ⟨.ref s.heap.objs.size, _, laidT (t' := s.toks) I (r.rep k.toNat) (by rw [(r.rep k.toNat).length]; exact flen), rfl, q _ _ rfl (I.hok.fresh (Nat.le_refl _))⟩
  have c0 : (decide (k < -(2 ^ 63)) || decide (k ≥ 2 ^ 63)) = false := by
    rw [decide_eq_false (by omega), decide_eq_false (by omega)] <;> rfl
  have go : ∀ (P : Result → Shared → Prop) (s' : Shared), Meets (Builtin.«tuple.__mul__» ⟨[.ref l, .int k t], []⟩) (fun _ R s => s.heap.get? l = some { cls := .type "tuple", dict := dd, data := .seq its.toArray n, slots := sl } ∧ P (.ok (.ret (Value.ref l))) s) → True := fun _ _ _ => trivial
  by_cases e1 : its = [] ∨ k = 1
  · have c1 : (its.toArray.isEmpty || k == 1) = true := by
      rcases e1 with e1 | e1
      · subst e1; rfl
      · subst e1; simp
    refine wpAny_binaryOp_repeat_ref (T := "tuple") (U := "int") (by decide) ⟨_, ho, rfl⟩ (fun s' => typeIs_int s' k t) noFill_tuple_mul F.fills_int_mul F.slot_int_rmul repeat_tuple F.slot_int_index.lookup
      (call_meets F.slot_int_rmul (typeIs_int s k t) F.entry_int_rmul (F.args_int_rmul_2 _ _) (int_rmul_tuple k t l its.toArray n dd sl)
        ⟨ho, rfl, ⟨_, ho, rfl⟩, call_meets F.slot_tuple_mul ⟨_, ho, rfl⟩ F.entry_tuple_mul (F.args_tuple_mul_2 _ _) (tuple_mul_same l its.toArray n dd sl k t c0 c1) ⟨ho, ?_⟩⟩)
    refine ⟨.ref l, H, I, rfl, q0 ?_⟩
    rcases e1 with e1 | e1
    · subst e1
      have : xs = [] := List.eq_nil_of_length_eq_zero hle.symm
      subst this
      simp
    · subst e1; simp
  · have hne : its ≠ [] := fun e => e1 (.inl e)
    have hx0 : xs ≠ [] := fun e => hne (by subst e; exact List.eq_nil_of_length_eq_zero hle)
    have k0 : k ≤ 0 := by
      have : ¬ 2 ≤ k := fun z => hx ⟨hx0, z⟩
      have : k ≠ 1 := fun e => e1 (.inr e)
      omega
    have hi : its.toArray.isEmpty = false := by
      cases its with
      | nil => exact absurd rfl hne
      | cons a b => rfl
    have c1 : (its.toArray.isEmpty || k == 1) = false := by
      rw [hi, Bool.false_or]
      exact beq_eq_false_iff_ne.mpr (by omega)
    have c2 : (decide (k ≤ 0) || its.toArray.isEmpty) = true := by rw [decide_eq_true k0]; rfl
    refine wpAny_binaryOp_repeat_ref (T := "tuple") (U := "int") (by decide) ⟨_, ho, rfl⟩ (fun s' => typeIs_int s' k t) noFill_tuple_mul F.fills_int_mul F.slot_int_rmul repeat_tuple F.slot_int_index.lookup
      (call_meets F.slot_int_rmul (typeIs_int s k t) F.entry_int_rmul (F.args_int_rmul_2 _ _) (int_rmul_tuple k t l its.toArray n dd sl)
        ⟨ho, rfl, ⟨_, ho, rfl⟩, call_meets F.slot_tuple_mul ⟨_, ho, rfl⟩ F.entry_tuple_mul (F.args_tuple_mul_2 _ _) (tuple_mul_none l its.toArray n dd sl k t c0 c1 c2) ⟨ho, ?_⟩⟩)
    have e0 : (List.replicate k.toNat xs).flatten = [] := by
      have : k.toNat = 0 := by omega
      rw [this]; rfl
    rw [e0] at q
    exact ⟨.ref s.heap.objs.size, _, laidT (its := []) (t' := s.toks) I .nil (by rw [sizeLine_eq]; exact Nat.zero_le _), rfl, q _ _ rfl (I.hok.fresh (Nat.le_refl _))⟩
end
end WgS
set_option Elab.async false
set_option linter.all false
set_option maxRecDepth 100000
/-! WgS: is a text of the program the text of Wg? -/
namespace WgS
open PySem PySem.Spec PyProof.Rows L2
open Wg (D Slot Opd Ex Exs Tg Tgs It Kvs Sts BOp COp Blt Mth LB)
/-- names: of the defs, of the constants -/
structure Tab where
  fn : Nat → Option Str
  con : Nat → Option Str
  /-- slots that are never stored -/
  keep : Nat → Bool := fun _ => false
  /-- may functions be values? -/
  fv : Bool := false
def opOf : BOp → Operator
  | .add => .Add
  | .sub => .Sub
  | .mul => .Mult
  | .fdiv => .FloorDiv
  | .mod => .Mod
def copOf : COp → CmpOp
  | .eq => .Eq
  | .ne => .NotEq
  | .lt => .Lt
  | .le => .LtE
  | .gt => .Gt
  | .ge => .GtE
  | .isN => .Is
  | .notN => .IsNot
  | .inn => .In
  | .nin => .NotIn
def visB (sc : Scope) (x : Str) : Bool := (match sc.names.lookup x with | some .local => true | some .cell => true | some .free => true | _ => false) && !(x == ("__debug__" : Str)) && !(x == ("__classdict__" : Str))
def glB (sc : Scope) (x : Str) : Bool := (match sc.names.lookup x with | some .globalImplicit => true | _ => false) && !(x == ("__debug__" : Str)) && !(x == ("__name__" : Str))
def chkLit : D → Expr → Bool
  | .non, .Constant .none _ _ => true
  | .bl b, .Constant (.bool c) _ _ => b == c
  | .int i, .Constant (.int j) _ _ => i == j
  | .str s, .Constant (.str z) _ _ => decide (z = ⟨s.toArray⟩)
  | _, _ => false
/-- a built-in's name in the text -/
def bltName : Blt → Option Str
  | .len => some "len"
  | .tuple => some "tuple"
  | .list => some "list"
  | .sorted => some "sorted"
  | .min => some "min"
  | .max => some "max"
  | .sum => some "sum"
  | .abs => some "abs"
  | .int => some "int"
  | .all => some "all"
  | .any => some "any"
  | _ => none
def mthName : Mth → Option Str
  | .append => some "append"
  | .extend => some "extend"
  | .pop => some "pop"
  | .index => some "index"
  | .count => some "count"
  | _ => none
def nameB (N : List Str) (sc : Scope) (i : Nat) (x : Str) : Bool := decide (N[i]? = some x) && visB sc x
def gnB (sc : Scope) (o : Option Str) (x : Str) : Bool := decide (o = some x) && glB sc x
def ownP (N : List Str) (own : List Nat) : List (Str × Nat) := own.map fun i => (N.getD i Str.empty, i)
/-- targets that are names of the block -/
def plB : Expr → Bool
  | .Slice .. => false
  | .Starred .. => false
  | .Set .. => false
  | _ => true
def notAtt : Expr → Bool
  | .Attribute .. => false
  | _ => true
def notCall : Expr → Bool
  | .Call .. => false
  | _ => true
mutual
def tgIn (own : List Nat) : Tg → Bool
  | .nm i => own.contains i
  | .tp ts => tgsIn own ts
  | .sb _ _ => false
def tgsIn (own : List Nat) : Tgs → Bool
  | .n => true
  | .c t ts => tgIn own t && tgsIn own ts
end
/-- zip's pairs are taken apart at once -/
def zipB : Wg.It → Tg → Bool
  | .zip _, .tp _ => true
  | .zip _, _ => false
  | _, _ => true
/-- where a name may be stored -/
def locB (sc : Scope) (fnb : Str → Bool) (x : Str) : Bool := (match sc.names.lookup x with | some .local => true | some .cell => fnb x | _ => false)
def lineB (a c : Pos) : Bool := a.endLine == c.line
mutual
def chkX (T : Tab) (N : List Str) : Ex → Scope → Expr → Bool
  | .lit d, _, e => chkLit d e
  | .var i, sc, e => match e with | .Name x _ => nameB N sc i x | _ => false
  | .glb g, sc, e => match e with | .Name x _ => gnB sc (T.con g) x | _ => false
  | .bin o a b, sc, e => match e with | .BinOp l op r _ => decide (op = opOf o) && chkX T N a sc l && chkX T N b sc r | _ => false
  | .neg a, sc, e => match e with | .UnaryOp .USub x _ => chkX T N a sc x | _ => false
  | .not a, sc, e => match e with | .UnaryOp .Not x _ => chkX T N a sc x | _ => false
  | .cmp o a b, sc, e => match e with | .Compare l [op] [r] _ => decide (op = copOf o) && chkX T N a sc l && chkX T N b sc r | _ => false
  | .chn o1 o2 a b c, sc, e => match e with | .Compare l [p1, p2] [m, r] _ => decide (p1 = copOf o1) && decide (p2 = copOf o2) && chkX T N a sc l && chkX T N b sc m && chkX T N c sc r | _ => false
  | .and a b, sc, e => match e with
    | .BoolOp .And [x, y] _ => chkX T N a sc x && chkX T N b sc y
    | .BoolOp .And (x :: y :: z :: r) p => chkX T N a sc x && chkX T N b sc (.BoolOp .And (y :: z :: r) p)
    | _ => false
  | .or a b, sc, e => match e with
    | .BoolOp .Or [x, y] _ => chkX T N a sc x && chkX T N b sc y
    | .BoolOp .Or (x :: y :: z :: r) p => chkX T N a sc x && chkX T N b sc (.BoolOp .Or (y :: z :: r) p)
    | _ => false
  | .ife c a b, sc, e => match e with | .IfExp t x y _ => chkX T N c sc t && chkX T N a sc x && chkX T N b sc y | _ => false
  | .tup es, sc, e => match e with | .Tuple xs _ _ => decide (es.len ≤ 1000) && chkXs T N es sc xs | _ => false
  | .lst es, sc, e => match e with | .List xs _ => decide (es.len ≤ 1000) && chkXs T N es sc xs | _ => false
  | .dct kvs, sc, e => match e with | .Dict ks vs _ => decide (ks.length = vs.length) && decide (ks.length ≤ 15) && chkKs T N kvs sc ks vs | _ => false
  | .idx a i, sc, e => match e with | .Subscript x y _ => chkX T N a sc x && chkX T N i sc y | _ => false
  | .slc a lo hi, sc, e => match e with
    | .Subscript x (.Slice l h none _) _ => chkX T N a sc x && (match l with | none => (match lo with | .noPart => true | _ => false) | some l' => chkX T N lo sc l') && (match h with | none => (match hi with | .noPart => true | _ => false) | some h' => chkX T N hi sc h')
    | _ => false
  | .rev a, sc, e => match e with
    | .Subscript x (.Slice none none (some (.UnaryOp .USub (.Constant (.int 1) _ _) _)) _) _ => chkX T N a sc x
    | _ => false
  | .noPart, _, _ => false
  | .call f es, sc, e => match e with | .Call (.Name x _) xs [] _ => gnB sc (T.fn f) x && chkXs T N es sc xs | _ => false
  | .callv f es, sc, e => match e with
    | .Call fx (y :: ys) [] _ => T.fv && notAtt fx && chkX T N f sc fx && chkXs T N es sc (y :: ys)
    | _ => false
  | .blt b es, sc, e => match b, es with
    | .sortedSet, .c a .n => (match e with
      | .Call (.Name x _) [.Call (.Name y _) [z] [] _] [] _ => gnB sc (some ("sorted" : Str)) x && gnB sc (some ("set" : Str)) y && chkX T N a sc z
      | _ => false)
    | .lenSet, .c a .n => (match e with
      | .Call (.Name x _) [.Call (.Name y _) [z] [] _] [] _ => gnB sc (some ("len" : Str)) x && gnB sc (some ("set" : Str)) y && chkX T N a sc z
      | _ => false)
    | .isInt, .c a .n => (match e with
      | .Call (.Name x _) [z, .Name y _] [] _ => gnB sc (some ("isinstance" : Str)) x && gnB sc (some ("int" : Str)) y && chkX T N a sc z
      | _ => false)
    | .isBool, .c a .n => (match e with
      | .Call (.Name x _) [z, .Name y _] [] _ => gnB sc (some ("isinstance" : Str)) x && gnB sc (some ("bool" : Str)) y && chkX T N a sc z
      | _ => false)
    | .isStr, .c a .n => (match e with
      | .Call (.Name x _) [z, .Name y _] [] _ => gnB sc (some ("isinstance" : Str)) x && gnB sc (some ("str" : Str)) y && chkX T N a sc z
      | _ => false)
    | .isTup, .c a .n => (match e with
      | .Call (.Name x _) [z, .Name y _] [] _ => gnB sc (some ("isinstance" : Str)) x && gnB sc (some ("tuple" : Str)) y && chkX T N a sc z
      | _ => false)
    | .isList, .c a .n => (match e with
      | .Call (.Name x _) [z, .Name y _] [] _ => gnB sc (some ("isinstance" : Str)) x && gnB sc (some ("list" : Str)) y && chkX T N a sc z
      | _ => false)
    | b, es => (match e with
      | .Call (.Name x _) xs [] _ => gnB sc (bltName b) x && (match xs with | [] => false | _ => true) && chkXs T N es sc xs
      | _ => false)
  | .rng t es, sc, e => match e with
    | .Call (.Name x _) [.Call (.Name y _) ys [] _] [] _ => gnB sc (some (if t then ("tuple" : Str) else ("list" : Str))) x && gnB sc (some ("range" : Str)) y && chkXs T N es sc ys && (es.len == 1 || es.len == 2)
    | _ => false
  | .mth m o es, sc, e => match m, o, es with
    | .append, .var k, .c a .n => (match e with
      | .Call (.Attribute (.Name x _) nm ap) [y] [] cp => decide (nm = ("append" : Str)) && lineB ap cp && nameB N sc k x && chkX T N a sc y
      | _ => false)
    | .extend, .var k, .c a .n => (match e with
      | .Call (.Attribute (.Name x _) nm ap) [y] [] cp => decide (nm = ("extend" : Str)) && lineB ap cp && nameB N sc k x && chkX T N a sc y
      | _ => false)
    | .update, .var k, .c a .n => (match e with
      | .Call (.Attribute (.Name x _) nm ap) [y] [] cp => decide (nm = ("update" : Str)) && lineB ap cp && nameB N sc k x && chkX T N a sc y
      | _ => false)
    | .pop, .var k, .n => (match e with
      | .Call (.Attribute (.Name x _) nm ap) [] [] cp => decide (nm = ("pop" : Str)) && lineB ap cp && nameB N sc k x
      | _ => false)
    | .index, o, es => (match e with
      | .Call (.Attribute x nm ap) (y :: ys) [] cp => decide (nm = ("index" : Str)) && lineB ap cp && notCall x && chkX T N o sc x && chkXs T N es sc (y :: ys) && decide (ys.length < 20)
      | _ => false)
    | .count, o, es => (match e with
      | .Call (.Attribute x nm ap) (y :: ys) [] cp => decide (nm = ("count" : Str)) && lineB ap cp && notCall x && chkX T N o sc x && chkXs T N es sc (y :: ys) && decide (ys.length < 20)
      | _ => false)
    | _, _, _ => false
  | .lc own elt t it c, sc, e => match e with
    | .ListComp x [⟨tg, iter, ifs, 0⟩] scope _ => blkC N sc scope (ownP N own) && tgIn own t && zipB it t && own.all (fun i => !T.keep i) && chkI T N it sc iter && chkT T N t (relS scope sc) (fun y => scope.names.lookup y == some .cell) tg && chkCs T N c (relS scope sc) ifs && chkX T N elt (relS scope sc) x
    | _ => false
  | .dc own k v t it c, sc, e => match e with
    | .DictComp x y [⟨tg, iter, ifs, 0⟩] scope _ => blkC N sc scope (ownP N own) && tgIn own t && zipB it t && own.all (fun i => !T.keep i) && chkI T N it sc iter && chkT T N t (relS scope sc) (fun y => scope.names.lookup y == some .cell) tg && chkCs T N c (relS scope sc) ifs && chkX T N k (relS scope sc) x && chkX T N v (relS scope sc) y
    | _ => false
  | .lam _ _, _, e => match e with | .Lambda .. => true | .Call .. => true | .JoinedStr .. => true | _ => false
  | .minKey _ _ _ _, _, e => match e with | .Call .. => true | _ => false
def chkKs (T : Tab) (N : List Str) : Kvs → Scope → List (Option Expr) → List Expr → Bool
  | .n, _, ks, vs => match ks, vs with | [], [] => true | _, _ => false
  | .c k v kvs, sc, ks, vs => match ks, vs with | some x :: ks', y :: vs' => chkX T N k sc x && chkX T N v sc y && chkKs T N kvs sc ks' vs' | _, _ => false
def chkXs (T : Tab) (N : List Str) : Exs → Scope → List Expr → Bool
  | .n, _, xs => match xs with | [] => true | _ => false
  | .c e es, sc, xs => match xs with | y :: ys => chkX T N e sc y && chkXs T N es sc ys | _ => false
def chkCs (T : Tab) (N : List Str) : Exs → Scope → List Expr → Bool
  | .n, _, xs => match xs with | [] => true | _ => false
  | .c e .n, sc, xs => match xs with | [y] => chkX T N e sc y | _ => false
  | _, _, _ => false
def chkI (T : Tab) (N : List Str) : Wg.It → Scope → Expr → Bool
  | .e a, sc, e => chkX T N a sc e
  | .range es, sc, e => match e with
    | .Call (.Name x _) [a] [] _ => gnB sc (some ("range" : Str)) x && chkXs T N es sc [a]
    | .Call (.Name x _) [a, b] [] _ => gnB sc (some ("range" : Str)) x && chkXs T N es sc [a, b]
    | .Call (.Name x _) [a, b, c] [] _ => gnB sc (some ("range" : Str)) x && chkXs T N es sc [a, b, c]
    | _ => false
  | .zip es, sc, e => match e with
    | .Call (.Name x _) [a, b] [] _ => gnB sc (some ("zip" : Str)) x && chkXs T N es sc [a, b]
    | _ => false
def chkT (T : Tab) (N : List Str) : Tg → Scope → (Str → Bool) → Expr → Bool
  | .nm i, sc, fnb, e => match e with | .Name x _ => decide (N[i]? = some x) && locB sc fnb x && !T.keep i | _ => false
  | .tp ts, sc, fnb, e => match e with | .Tuple xs _ _ => chkTs T N ts sc fnb xs | _ => false
  | .sb k i, sc, fnb, e => match e with | .Subscript (.Name x _) y _ => nameB N sc k x && chkX T N i sc y | _ => false
def chkTs (T : Tab) (N : List Str) : Tgs → Scope → (Str → Bool) → List Expr → Bool
  | .n, _, _, xs => match xs with | [] => true | _ => false
  | .c t ts, sc, fnb, xs => match xs with | y :: ys => chkT T N t sc fnb y && chkTs T N ts sc fnb ys | _ => false
end
/-- the stores of a, b = x, y go backwards -/
def swp (sc : Scope) (targets : List Expr) (value : Expr) : Option (Option (List Str)) :=
  match targets, value with
  | [.Tuple ts _ _], .Tuple vs _ _ =>
    if (!(ts.length == 2 || ts.length == 3) || vs.length != ts.length) = true then some none
    else if (vs.any fun | .Starred .. => true | _ => false) = true then some none
    else
      let line := (ts.head?.map (·.pos.line)).getD 0
      let names := ts.filterMap fun
        | .Name id pos => if sc.names.lookup id == some .local && pos.line == line then some id else none
        | _ => none
      if (names.length != ts.length || names.eraseDups.length != names.length) = true then some none
      else if vs.all (foldedForSure 8) = true then some none
      else if vs.all (constantsAlone 8) = true then none
      else some (some names)
  | [.List _ _], .Tuple _ _ _ => none
  | _, _ => some none
mutual
def chkS (T : Tab) (N : List Str) (sc : Scope) : Wg.St → Stmt → Bool
  | .asg t e, s => match s with
    | .Assign [tg] x _ => chkT T N t sc (fun _ => true) tg && chkX T N e sc x && (swp sc [tg] x).isSome && (match x with | .SetComp .. => false | _ => true)
    | _ => false
  | .par2d i j, s => match s with
    | .Assign [.Tuple [.Name x px, .Name y py] kt pt] (.Tuple [.Dict [] [] p1, .Dict [] [] p2] k2 pt2) _ =>
      decide (N[i]? = some x) && decide (N[j]? = some y) && !T.keep i && !T.keep j && decide (x ≠ y) && decide (sc.names.lookup x = some .local) && decide (sc.names.lookup y = some .local) &&
      decide (swp sc [.Tuple [.Name x px, .Name y py] kt pt] (.Tuple [.Dict [] [] p1, .Dict [] [] p2] k2 pt2) = some (some [x, y]))
    | _ => false
  | .aug i o e, s => match s with
    | .AugAssign (.Name x _) op y _ => decide (N[i]? = some x) && !T.keep i && locB sc (fun _ => true) x && decide (op = opOf o) && chkX T N e sc y
    | _ => false
  | .augS k i o e, s => match s with
    | .AugAssign (.Subscript (.Name x _) j _) op y _ => nameB N sc k x && chkX T N i sc j && decide (op = opOf o) && chkX T N e sc y
    | _ => false
  | .exp e, s => match s with | .Expr x _ => (match x with | .ListComp .. => false | .SetComp .. => false | .DictComp .. => false | _ => true) && chkX T N e sc x | _ => false
  | .ret e, s => match s with | .Return (some x) _ => chkX T N e sc x | _ => false
  | .iff c a b, s => match s with | .If t x y _ => chkX T N c sc t && chkSs T N sc a x && chkSs T N sc b y | _ => false
  | .whl c b, s => match s with | .While t x [] _ => chkX T N c sc t && chkSs T N sc b x | _ => false
  | .for t it b, s => match s with | .For tg iter x [] _ => chkT T N t sc (fun _ => true) tg && zipB it t && chkI T N it sc iter && chkSs T N sc b x | _ => false
  | .brk, s => match s with | .Break _ => true | _ => false
  | .cnt, s => match s with | .Continue _ => true | _ => false
  | .rse, _ => true
def chkSs (T : Tab) (N : List Str) (sc : Scope) : Sts → List Stmt → Bool
  | .n, xs => match xs with | [] => true | _ => false
  | .c s ss, xs => match xs with | y :: ys => chkS T N sc s y && chkSs T N sc ss ys | _ => false
end
end WgS
set_option Elab.async false
set_option linter.all false
set_option maxRecDepth 100000
set_option maxHeartbeats 1000000
/-! WgS: operations by values. -/
namespace WgS
open PySem PySem.Spec PyProof.Rows L2
open Wg (D Slot Opd Ex Exs Tg Tgs It Kvs Sts BOp COp Blt Mth LB)
/-- what an operation hands back -/
def Res (W : Wd) (Z S : AS) (ρ : Wg.Env) (σ : L2.St) (H : Hp) (Q : VK) (Qs : Slot → Prop) : Prop :=
  ∀ v H' S' s, Ext Z S H S' H' → R W Z S' ρ σ H' → RepS W Z S' ρ σ H' v s → Qs s → Q v H'
section
variable {W : Wd} {Z S : AS} {ρ : Wg.Env} {σ : L2.St} {H : Hp} {Q : VK} {Qs : Slot → Prop} {p : Addr} {xs : List V} {l : List D}
/-- a value that stands already -/
theorem Res.val {v : V} {d : D} (k : Res W Z S ρ σ H Q Qs) (r : R W Z S ρ σ H) (h : Rep W S H v d) (q : Qs (.sh d)) : Q v H := k v H S (.sh d) .refl r h q
/-- a new tuple -/
theorem Res.tup {ob : Obj} (k : Res W Z S ρ σ H Q Qs) (r : R W Z S ρ σ H) (hd : ob.dict = none) (hp : H p = none) (h : Reps W S H xs l) (q : Qs (.sh (.tup l))) : Q (.ref p) (upd H p (.frz ob (.tup xs))) := by
  have o := r.own_new hp
  have n := r.noOwn_new hp
  have r1 := r.upd o n (.frz ob (.tup xs))
  have e : Ext Z S H (AS.and S p) (upd H p (.frz ob (.tup xs))) := (Ext.upd o _).trans .share
  exact k _ _ _ (.sh (.tup l)) e (r1.share o n (by rw [upd_same]; simp)) (.tup (.inr rfl) upd_same hd (Reps.mono e.s _ _ h)) q
/-- a new list -/
theorem Res.lst (k : Res W Z S ρ σ H Q Qs) (r : R W Z S ρ σ H) (hp : H p = none) (h : Reps W S H xs l) (q : Qs (.ol l)) : Q (.ref p) (upd H p (.lst xs)) := by
  have o := r.own_new hp
  have n := r.noOwn_new hp
  have e : Ext Z S H S (upd H p (.lst xs)) := Ext.upd o _
  exact k _ _ _ (.ol l) e (r.upd o n (.lst xs)) ⟨p, xs, rfl, upd_same, o, n, Reps.mono e.s _ _ h⟩ q
end
section
variable {X : Cx} {W : Wd}
theorem LB_line : LB ≤ sizeLine := by rw [sizeLine_eq]; decide
/-! ### arithmetic -/
def rBin (W : Wd) (o : BOp) : R2 := fun x y H Q => ∃ Z S ρ σ x' y' Qs, R W Z S ρ σ H ∧ RepT W S H x x' ∧ RepT W S H y y' ∧ Wg.binV o x' y' Qs ∧ Res W Z S ρ σ H Q Qs
theorem RepT.int {S : AS} {H : Hp} {x : V} {i : Int} (h : RepT W S H x (.int i)) : x = .int i := by
  have h' : Rep W S H x (.int i) := h
  cases h'; rfl
theorem RepT.str {S : AS} {H : Hp} {x : V} {i : List Nat} (h : RepT W S H x (.str i)) : x = .str ⟨i.toArray⟩ := by
  have h' : Rep W S H x (.str i) := h
  cases h'; rfl
theorem RepT.bl {S : AS} {H : Hp} {x : V} {b : Bool} (h : RepT W S H x (.bl b)) : x = .bl b := by
  have h' : Rep W S H x (.bl b) := h
  cases h'; rfl
theorem log2_lt {x : Int} {a : Nat} (h : x.natAbs < 2 ^ a) (ha : 0 < a) : x.natAbs.log2 < a := PySem.Flt.log2_lt_of ha h
theorem okMul_ok {i j : Int} (h : Wg.okMul i j) : IntMulOk i j := by
  unfold Wg.okMul at h
  rcases h with (h | h) | ⟨h1, h2⟩
  · exact IntMulOk.of_left (intBits_le_64 (by omega) (by omega))
  · exact IntMulOk.of_right (intBits_le_64 (by omega) (by omega))
  · exact CMulW.ok (by
      have a := log2_lt h1 (by decide)
      have b := log2_lt h2 (by decide)
      unfold CMulW
      omega)
theorem okDiv_ok {j : Int} (h : Wg.okDiv j) : j ≠ 0 ∧ j.natAbs.log2 < 9000 := by
  unfold Wg.okDiv at h
  obtain ⟨h0, h | h⟩ := h
  · have a := log2_lt h (by decide)
    exact ⟨h0, by omega⟩
  · have a := log2_lt h (by decide)
    exact ⟨h0, by omega⟩
theorem op_mulI : OpR X (binaryOp .Mult) (rI (fun i j => Wg.okMul i j) fun i j => .int (i * j)) := opI fun _ _ _ _ _ _ _ hc q => mul_int q (okMul_ok hc)
theorem op_fdivI : OpR X (binaryOp .FloorDiv) (rI (fun _ j => Wg.okDiv j) fun i j => .int (i.fdiv j)) := opI fun i j _ _ _ _ _ hc q =>
  floordiv_int (okDiv_ok hc).1 q (.inl (PyProof.noPylong_of_log2 (okDiv_ok hc).2))
theorem ofTA {a b : List Nat} : (⟨a.toArray⟩ : Str) ++ ⟨b.toArray⟩ = ⟨(a ++ b).toArray⟩ := by
  show Str.append _ _ = _
  unfold Str.append
  simp
theorem lenTA {a : List Nat} : (⟨a.toArray⟩ : Str).length = a.length := by
  unfold Str.length
  simp
def rCatF (K : PySem.W.Frag) : R2 := fun x y H Q => ∃ a b xs ys, x = .ref a ∧ y = .ref b ∧ SqT K H a xs ∧ SqT K H b ys ∧ xs.length + ys.length ≤ sizeLine ∧
  (xs = [] → Q (.ref b) H) ∧ (xs ≠ [] → ys = [] → Q (.ref a) H) ∧ (xs ≠ [] → ys ≠ [] → ∀ p ob, ob.dict = none → H p = none → Q (.ref p) (upd H p (.frz ob (.tup (xs ++ ys)))))
theorem op_catF : OpR X (binaryOp .Add) (rCatF X.K) := by
  intro pins s σ H x y v u Q I rx ry h
  obtain ⟨a, b, xs, ys, rfl, rfl, ha, hb, hz, q0, q1, q2⟩ := h
  cases rx
  cases ry
  obtain ⟨its, r1, p1, _⟩ := I.tuple ha
  obtain ⟨its2, r2, p2, _⟩ := I.tuple hb
  by_cases hx : xs = []
  · subst hx
    cases r1
    exact cat_tup0 p1 p2 ⟨.ref b, H, I, rfl, q0 rfl⟩
  · refine HT.cat_tup p1 p2 (fun z => hx (r1.nil_iff.mp z)) (fun z => ⟨.ref a, H, I, rfl, q1 hx (r2.nil_iff.mp z)⟩) (fun z => ?_) (by rw [← r1.length, ← r2.length]; exact hz)
    exact ⟨.ref s.heap.objs.size, _, laidT (t' := s.toks) I (r1.append r2) (by rw [List.length_append]; exact hz), rfl, q2 hx (fun w => z (r2.nil_iff.mpr w)) _ _ rfl (I.hok.fresh (Nat.le_refl _))⟩
theorem op_bin (hK : W.K = X.K) (o : BOp) : OpR X (binaryOp (opOf o)) (rBin W o) := by
  intro pins s σ' H x y v u Q I rx ry h
  obtain ⟨Z, S, ρ, σ, x', y', Qs, r, hx, hy, hb, k⟩ := h
  unfold Wg.binV at hb
  split at hb
  · rename_i i j
    cases hx.int; cases hy.int
    exact op_add pins s σ' H _ _ v u Q I rx ry ⟨i, j, rfl, rfl, k.val r (.int _) hb⟩
  · rename_i a b
    obtain ⟨hz, hb⟩ := hb
    obtain ⟨p, xs, rfl, h1, h2⟩ := Rep.tupv hx
    obtain ⟨q, ys, rfl, h3, h4⟩ := Rep.tupv hy
    have e1 := h2.length
    have e2 := h4.length
    refine op_catF pins s σ' H _ _ v u Q I rx ry ⟨p, q, xs, ys, rfl, rfl, hK ▸ h1, hK ▸ h3, ?_, fun e => ?_, fun _ e => ?_, fun _ _ a ob hd ha => ?_⟩
    · have := LB_line; omega
    · subst e
      have : a = [] := List.eq_nil_of_length_eq_zero e1.symm
      subst this
      exact k.val r hy hb
    · subst e
      have : b = [] := List.eq_nil_of_length_eq_zero e2.symm
      subst this
      rw [List.append_nil] at hb
      exact k.val r hx hb
    · exact k.tup r hd ha (h2.append h4) hb
  · rename_i a b
    obtain ⟨hz, hb⟩ := hb
    obtain ⟨p, xs, rfl, h1, h2⟩ := hx.lst
    obtain ⟨q, ys, rfl, h3, h4⟩ := hy.lst
    have e1 := h2.length
    have e2 := h4.length
    exact op_cat pins s σ' H _ _ v u Q I rx ry ⟨p, q, xs, ys, rfl, rfl, h1, h3, by have := LB_line; omega, fun a ha => k.lst r ha (h2.append h4) hb⟩
  · rename_i a b
    obtain ⟨hz, hb⟩ := hb
    cases hx.str; cases hy.str
    refine op_add_str pins s σ' H _ _ v u Q I rx ry ⟨_, _, rfl, rfl, ?_, ?_⟩
    · rw [lenTA, lenTA]; have := LB_line; omega
    · rw [ofTA]; exact k.val r (.str _) hb
  · rename_i i j
    cases hx.int; cases hy.int
    exact op_sub pins s σ' H _ _ v u Q I rx ry ⟨i, j, rfl, rfl, k.val r (.int _) hb⟩
  · rename_i i j
    cases hx.int; cases hy.int
    exact op_mulI pins s σ' H _ _ v u Q I rx ry ⟨i, j, rfl, rfl, hb.1, k.val r (.int _) hb.2⟩
  · rename_i a j
    obtain ⟨hz, hj1, hj, hb⟩ := hb
    obtain ⟨p, xs, rfl, h1, h2⟩ := Rep.tupv hx
    cases hy.int
    have e1 := h2.length
    refine op_repTA pins s σ' H _ _ v u Q I rx ry ⟨p, j, xs, rfl, rfl, hK ▸ h1, hj1, hj, by omega, fun e => ?_, fun a ob hd ha => k.tup r hd ha (h2.rep _) hb⟩
    have e2 : (List.replicate j.toNat a).flatten = a := by
      by_cases c : j.toNat = 1
      · rw [c]; simp
      · have l1 := congrArg List.length e
        have l2 : j.toNat * xs.length = xs.length := by simpa using l1
        have z : xs.length = 0 := by
          rcases Nat.eq_zero_or_pos xs.length with z | z
          · exact z
          · exfalso
            have : j.toNat * xs.length = 1 * xs.length := by omega
            exact c (Nat.eq_of_mul_eq_mul_right z this)
        have : a = [] := List.eq_nil_of_length_eq_zero (by omega)
        rw [this]; simp
    rw [e2] at hb
    exact k.val r hx hb
  · rename_i a j
    obtain ⟨hz, hj1, hj, hb⟩ := hb
    obtain ⟨p, xs, rfl, h1, h2⟩ := hx.lst
    cases hy.int
    have e1 := h2.length
    refine op_rep pins s σ' H _ _ v u Q I rx ry ⟨p, j, xs, rfl, rfl, h1, ?_, ?_, ?_, fun a ha => k.lst r ha (h2.rep _) hb⟩
    · omega
    · omega
    · rw [sizeLine_eq]
      have a1 : xs.length * j.toNat ≤ 1000 * 1000 := Nat.mul_le_mul (by omega) (by omega)
      omega
  · rename_i i j
    cases hx.int; cases hy.int
    exact op_fdivI pins s σ' H _ _ v u Q I rx ry ⟨i, j, rfl, rfl, hb.1, k.val r (.int _) hb.2⟩
  · rename_i i j
    cases hx.int; cases hy.int
    exact op_modN pins s σ' H _ _ v u Q I rx ry ⟨i, j, rfl, rfl, hb.1, k.val r (.int _) hb.2⟩
  · exact hb.elim
/-! ### comparisons -/
def rCmp (W : Wd) (o : COp) : R2 := fun x y H Q => ∃ S x' y' Qb, RepT W S H x x' ∧ RepT W S H y y' ∧ Wg.cmpV o x' y' Qb ∧ ∀ b, Qb b → Q (.bl b) H
theorem reads_of {pins : List (Addr × Obj)} {σ : L2.St} {H : Hp} {s : Shared} {S : AS} {x : V} {v : Value} {d : D} {n : Nat} (hK : W.K = X.K) (I : Inv X pins σ H s) (h : RepT W S H x d) (p : D.pl n d = true) (r : RelV x v) : ∃ as, Reads s.heap v (toP d) as :=
  Dp.reads I _ _ _ (hK ▸ h.dp p) r
theorem plain_of {n : Nat} {d : D} (p : D.pl n d = true) : (toP d).plain = true := PyData.plain_of_canLay0 _ (pl_toP n d p).1
theorem plains_of {n : Nat} {l : List D} (p : D.pls n l = true) : PyData.plainAll (toPs l) = true := PyData.plainAll_of_canLay0 _ (pls_toP n l p).1
theorem any_toPs (x : D) : ∀ l : List D, ((toPs l).any fun z => PyData.eqv z (toP x)) = l.any fun z => D.eqv z x
  | [] => by rw [toPs]; rfl
  | y :: ys => by rw [toPs, List.any_cons, List.any_cons, any_toPs x ys, eqv_toP]
theorem countP_toPs (x : D) : ∀ l : List D, ((toPs l).countP fun z => PyData.eqv z (toP x)) = l.countP fun z => D.eqv z x
  | [] => by rw [toPs]; rfl
  | y :: ys => by rw [toPs, List.countP_cons, List.countP_cons, countP_toPs x ys, eqv_toP]
theorem scal_non {S : AS} {H : Hp} {x : V} {x' : D} (h : RepT W S H x x') : decide (x = V.non) = Wg.isNon x' := by
  cases x' with
  | non => have h' : Rep W S H x .non := h; cases h'; rfl
  | bl b => cases h.bl; rfl
  | int i => cases h.int; rfl
  | str z => cases h.str; rfl
  | tup l => obtain ⟨a, xs, rfl, _⟩ := Rep.tupv h; rfl
  | lst l => obtain ⟨a, xs, rfl, _⟩ := h.lst; rfl
  | dct l => obtain ⟨a, xs, rfl, _⟩ := h.dct; rfl
  | fn f c => have h' : Rep W S H x (.fn f c) := h; cases h'; rfl
  | pool => have h' : Rep W S H x .pool := h; cases h'; rfl
  | scr k ns => obtain ⟨a, rfl, _⟩ := Rep.scrv h; rfl
theorem op_cmp (hK : W.K = X.K) (hu : X.A.units + 65 < cLine) (o : COp) : OpR X (compareOp (copOf o)) (rCmp W o) := by
  intro pins s σ' H x y v u Q I rx ry h
  obtain ⟨S, x', y', Qb, hx, hy, hb, k⟩ := h
  have fin : ∀ b, Qb b → EP X pins σ' Q (.bool b) s := fun b q => ⟨.bl b, H, I, rfl, k b q⟩
  cases o with
  | eq =>
    obtain ⟨p1, p2, hb⟩ := hb
    exact op_eqD (by omega) pins s σ' H x y v u Q I rx ry ⟨toP x', toP y', hK ▸ hx.dp p1, hK ▸ hy.dp p2, pl_shaped p1, pl_shaped p2, by rw [eqv_toP]; exact k _ hb⟩
  | ne =>
    obtain ⟨p1, p2, hb⟩ := hb
    exact op_neD (by omega) pins s σ' H x y v u Q I rx ry ⟨toP x', toP y', hK ▸ hx.dp p1, hK ▸ hy.dp p2, pl_shaped p1, pl_shaped p2, by rw [eqv_toP]; exact k _ hb⟩
  | lt =>
    obtain ⟨p1, p2, al, nn, hb⟩ := hb
    obtain ⟨as, r1⟩ := reads_of hK I hx p1 rx
    obtain ⟨bs, r2⟩ := reads_of hK I hy p2 ry
    have d1 := (pl_toP 9 x' p1).2
    exact PySem.W.lt_data r1 r2 (alike_toP _ _ al) (nn_toP nn) (by omega) (by rw [lt_toP _ _ al]; exact fin _ hb)
  | gt =>
    obtain ⟨p1, p2, al, nn, hb⟩ := hb
    obtain ⟨as, r1⟩ := reads_of hK I hx p1 rx
    obtain ⟨bs, r2⟩ := reads_of hK I hy p2 ry
    have d1 := (pl_toP 9 x' p1).2
    have al' : PySem.W.alike (toP y') (toP x') = true := by rw [PySem.W.alike_comm]; exact alike_toP _ _ al
    have e : PySem.W.dataLt (toP y') (toP x') = D.lt y' x' := lt_toP _ _ (by rw [alike_comm]; exact al)
    exact PySem.W.gt_data r1 r2 (alike_toP _ _ al) (nn_toP nn) (by omega) (by rw [e]; exact fin _ hb)
  | le =>
    obtain ⟨p1, p2, al, nn, hb⟩ := hb
    obtain ⟨as, r1⟩ := reads_of hK I hx p1 rx
    obtain ⟨bs, r2⟩ := reads_of hK I hy p2 ry
    have d1 := (pl_toP 9 x' p1).2
    have e : PySem.W.dataLt (toP y') (toP x') = D.lt y' x' := lt_toP _ _ (by rw [alike_comm]; exact al)
    exact PySem.W.le_data r1 r2 (alike_toP _ _ al) (nn_toP nn) (by omega) (by rw [e]; exact fin _ hb)
  | ge =>
    obtain ⟨p1, p2, al, nn, hb⟩ := hb
    obtain ⟨as, r1⟩ := reads_of hK I hx p1 rx
    obtain ⟨bs, r2⟩ := reads_of hK I hy p2 ry
    have d1 := (pl_toP 9 x' p1).2
    exact PySem.W.ge_data r1 r2 (alike_toP _ _ al) (nn_toP nn) (by omega) (by rw [lt_toP _ _ al]; exact fin _ hb)
  | isN =>
    cases y' with
    | non =>
      have h' : Rep W S H y .non := hy
      cases h'
      exact op_isN pins s σ' H x _ v u Q I rx ry ⟨rfl, by rw [scal_non hx]; exact k _ hb⟩
    | _ => exact (show False from hb).elim
  | notN =>
    cases y' with
    | non =>
      have h' : Rep W S H y .non := hy
      cases h'
      exact op_notN pins s σ' H x _ v u Q I rx ry ⟨rfl, by rw [scal_non hx]; exact k _ hb⟩
    | _ => exact (show False from hb).elim
  | inn =>
    cases y' with
    | tup l =>
      obtain ⟨p1, p2, hb⟩ := hb
      obtain ⟨as, r1⟩ := reads_of hK I hx p1 rx
      obtain ⟨bs, r2⟩ := reads_of (n := 10) hK I hy (by simpa [D.pl] using p2) ry
      rw [toP] at r2
      have d1 := (pl_toP 9 x' p1).2
      exact PySem.SeqAt.in_tuple_data r2 r1 (plains_of p2) (plain_of p1) (by omega) (by rw [any_toPs]; exact fin _ hb)
    | lst l =>
      obtain ⟨p1, p2, hb⟩ := hb
      obtain ⟨as, r1⟩ := reads_of hK I hx p1 rx
      obtain ⟨bs, r2⟩ := reads_of (n := 10) hK I hy (by simpa [D.pl] using p2) ry
      rw [toP] at r2
      have d1 := (pl_toP 9 x' p1).2
      exact PySem.SeqAt.in_list_data r2 r1 (plains_of p2) (plain_of p1) (by omega) (by rw [any_toPs]; exact fin _ hb)
    | dct kvs =>
      obtain ⟨p1, hb⟩ := hb
      obtain ⟨key, rfl⟩ := keysOk_key p1
      obtain ⟨a, ks, rfl, ha, hr⟩ := hy.dct
      cases (show u = Value.ref a from ry)
      refine d_in (A := X.A) (o := valV ks key) (by omega) I (.inl ⟨ks, key, ha, rfl, rfl⟩) (hx.key ▸ rx) fun s' I' => ?_
      rw [hr.isSome] at hb
      exact ⟨.bl (valV ks key).isSome, H, I', rfl, k _ hb⟩
    | _ => exact (show False from hb).elim
  | nin =>
    cases y' with
    | tup l =>
      obtain ⟨p1, p2, hb⟩ := hb
      obtain ⟨as, r1⟩ := reads_of hK I hx p1 rx
      obtain ⟨bs, r2⟩ := reads_of (n := 10) hK I hy (by simpa [D.pl] using p2) ry
      rw [toP] at r2
      have d1 := (pl_toP 9 x' p1).2
      exact PySem.SeqAt.notIn_tuple_data r2 r1 (plains_of p2) (plain_of p1) (by omega) (by rw [any_toPs]; exact fin _ hb)
    | lst l =>
      obtain ⟨p1, p2, hb⟩ := hb
      obtain ⟨as, r1⟩ := reads_of hK I hx p1 rx
      obtain ⟨bs, r2⟩ := reads_of (n := 10) hK I hy (by simpa [D.pl] using p2) ry
      rw [toP] at r2
      have d1 := (pl_toP 9 x' p1).2
      exact PySem.SeqAt.notIn_list_data r2 r1 (plains_of p2) (plain_of p1) (by omega) (by rw [any_toPs]; exact fin _ hb)
    | dct kvs =>
      obtain ⟨p1, hb⟩ := hb
      obtain ⟨key, rfl⟩ := keysOk_key p1
      obtain ⟨a, ks, rfl, ha, hr⟩ := hy.dct
      cases (show u = Value.ref a from ry)
      refine d_notIn (A := X.A) (o := valV ks key) (by omega) I (.inl ⟨ks, key, ha, rfl, rfl⟩) (hx.key ▸ rx) fun s' I' => ?_
      rw [hr.isSome] at hb
      exact ⟨.bl (!(valV ks key).isSome), H, I', rfl, k _ hb⟩
    | _ => exact (show False from hb).elim
end
end WgS
set_option Elab.async false
set_option linter.all false
set_option maxRecDepth 100000
set_option maxHeartbeats 1000000
/-! WgS: built-ins by values. -/
namespace WgS
open PySem PySem.Spec PyProof.Rows L2
open Wg (D Slot Opd Ex Exs Tg Tgs It Kvs Sts BOp COp Blt Mth LB)
inductive RepTs (W : Wd) (S : AS) (H : Hp) : List V → List D → Prop
  | nil : RepTs W S H [] []
  | cons {v : V} {vs : List V} {d : D} {ds : List D} : RepT W S H v d → RepTs W S H vs ds → RepTs W S H (v :: vs) (d :: ds)
section
variable {prog : Program} {w : World} {A : Around} {E : Value → Shared → Prop} {s : Shared}
/-- a list made of a tuple's items -/
theorem collect_tup {l : Addr} {vs : List Value} {Q : List Value → Shared → Prop} (hl : s.heap.IsTuple l vs.toArray)
    (h : Q vs { s with heap := (s.heap.push (seqObj "list" #[] 0)).update s.heap.objs.size (Obj.mapSeq (· ++ vs.toArray)) }) (hsz : vs.length ≤ sizeLine) :
    wpAny (model prog w) A (collect (.ref l)) Q E s := by
  obtain ⟨o, ho, hc, n, hd⟩ := id hl
  unfold collect
  refine wpAny_bind (wpAny_runValue (codeAny_builtin entry_proto_collect' ?_))
  show wpAny _ _ (do again (.builtin "list.__iadd__" ⟨[← newList [], .ref l], []⟩)) _ _ s
  refine wpAny_bind (wpAny_newList (wpAny_pure ⟨Code.quiet_builtin _ (by decide +kernel), codeAny_builtin entry_list_iadd' ?_⟩))
  show wpAny _ _ (Builtin.List.listExtendWith (.ref s.heap.objs.size) (.ref l) (.ref s.heap.objs.size)) _ _ { s with heap := s.heap.push (seqObj "list" #[] 0) }
  unfold Builtin.List.listExtendWith
  have ho' : (s.heap.push (seqObj "list" #[] 0)).get? l = some o := Heap.get?_push_of_some _ ho
  refine wpAny_bind (wpAny_typeOf (T := "tuple") ⟨o, ho', hc⟩ ?_)
  have ht : (Value.type "tuple" == Value.type "tuple") = true := by rfl
  rw [if_pos (by rw [ht]; simp)]
  refine wpAny_bind (listItems_at ho' hd ?_)
  refine wpAny_bind (listItems_at (xs := #[]) (n := 0) (Heap.get?_push_size _ rfl) rfl ?_)
  rw [if_neg (by simp)]
  refine wpAny_bind (listUpdate_at (xs := #[]) (n := 0) (Heap.get?_push_size _ rfl) rfl ?_ (Nat.zero_le _) (by show (#[] ++ vs.toArray).size ≤ sizeLine + 1; simp only [Array.size_append, List.size_toArray, List.length_nil]; omega))
  refine wpAny_pure ?_
  show wpAny (model prog w) A (do
      let o ← load s.heap.objs.size
      match o.data with
      | .seq xs _ => pure xs.toList
      | _ => unsupported "internal:collect") Q E { s with heap := (s.heap.push (seqObj "list" #[] 0)).update s.heap.objs.size (Obj.mapSeq (· ++ vs.toArray)) }
  refine wpAny_bind (wpAny_load (get?_update_seq (Heap.get?_push_size _ rfl) _) ?_)
  show wpAny _ _ (pure ((#[] : Array Value) ++ vs.toArray).toList) Q E _
  rw [show ((#[] : Array Value) ++ vs.toArray).toList = vs by simp]
  exact wpAny_pure h
open PySem.W in
theorem sorted_of_sortT {l : Addr} {vs : List Value} {kw : List (Str × Value)} {Q : Value → Shared → Prop} (hl : s.heap.IsTuple l vs.toArray) (hL : vs.length ≤ sizeLine) (ha1 : argsOk "sorted" ⟨[.ref l], kw⟩) (ha2 : ∀ x, argsOk "list.sort" ⟨[.ref x], kw⟩)
    (body : ∀ E' : Value → Shared → Prop, wpAny (model prog w) A.in1.in1 (Builtin.«list.sort» ⟨[.ref (s.heap.objs.size + 1)], kw⟩) (fun f s' => f = .done (.ret .none) ∧ Q (.ref (s.heap.objs.size + 1)) s') E' { s with heap := copyHeap s.heap vs }) :
    wpAny (model prog w) A (call (.builtin "sorted") [.ref l] kw) Q E s := by
  refine call_function_entry_kw kind_sorted plain_sorted entry_sorted ha1 ?_
  unfold Builtin.«sorted»
  refine wpAny_bind (m := checkCount "sorted" 1 1 _) (wpAny_pure ?_)
  refine wpAny_bind (collect_tup hl ?_ hL)
  refine wpAny_bind (wpAny_newList ?_ hL)
  have hsz : ((s.heap.push (seqObj "list" #[] 0)).update s.heap.objs.size (Obj.mapSeq (· ++ vs.toArray))).objs.size = s.heap.objs.size + 1 := by
    rw [Heap.size_update, size_push']
  show wpAny _ _ _ _ _ { s with heap := copyHeap s.heap vs }
  rw [hsz]
  refine wpAny_bind (wpAny_holding (wpAny_call_entry_kw slot_list_sort ⟨_, copyHeap_at s.heap vs, rfl⟩ entry_list_sort ?body (ha2 _)))
  case body =>
    show wpAny (model prog w) A.in1.in1 (Builtin.«list.sort» ⟨[.ref (s.heap.objs.size + 1)], kw⟩) _ _ _
    refine wpAny_mono (body _) (fun f s' hf => ?_) fun _ _ e => e
    obtain ⟨rfl, hq⟩ := hf
    exact ⟨_, rfl, wpAny_pure ⟨_, rfl, hq⟩⟩
open PySem.W in
theorem sorted_dataT {β : Type} {enc : β → PyData} {R : Value → β → Prop} {bs : List β} {vs : List Value} {l : Addr} {Q : Value → Shared → Prop} (hl : s.heap.IsTuple l vs.toArray) (e : EachIs R vs bs) (er : EachIs (fun v b => ∃ as, Reads s.heap v (enc b) as) vs bs) (hal : AllAlike (bs.map enc)) (hk : Sortable (bs.map enc)) (hL : bs.length ≤ sizeLine)
    (hu : ∀ b, b ∈ bs → A.units + 2 + (enc b).depth < cLine) (h : ∀ out, out.length = bs.length → EachIs R out (bs.mergeSort (dataLe false enc)) → Q (.ref (s.heap.objs.size + 1)) { s with heap := sortedAll s.heap vs (List.toArray out) }) :
    wpAny (model prog w) A (call (.builtin "sorted") [.ref l]) Q E s := by
  have er' : EachIs (fun v b => ∃ as, Reads (sortingHeap (copyHeap s.heap vs) (s.heap.objs.size + 1) vs) v (enc b) as) vs bs := er.mono fun _ _ ⟨as, r⟩ => ⟨as, PyProof.Rows.Reads.keeps (fun _ _ => sorting_copy_old) r⟩
  have S : SortsAt prog w A.in1.in1 { s with heap := sortingHeap (copyHeap s.heap vs) (s.heap.objs.size + 1) vs } _ vs := SortsAt.data (s := { s with heap := sortingHeap (copyHeap s.heap vs) (s.heap.objs.size + 1) vs }) (each_map (R := fun v d => ∃ as, Reads (sortingHeap (copyHeap s.heap vs) (s.heap.objs.size + 1) vs) v d as) enc er') hal hk (bound_map hu)
  have hLv : vs.length ≤ sizeLine := by rw [e.length]; exact hL
  have hq := h _ (by rw [sortVals_length false rfl]; exact e.length) (sortVals_data false e er' hal)
  exact sorted_of_sortT hl hLv (args_sorted1 _) (fun _ => args_list_sort _) fun _ => list_sort_vals (s := { s with heap := copyHeap s.heap vs }) (copyHeap_at s.heap vs) S hLv ⟨rfl, hq⟩
end
def rBlt (W : Wd) (b : Blt) : List V → Hp → VK → Prop := fun vs H Q => ∃ Z S ρ σ ds Qs, R W Z S ρ σ H ∧ RepTs W S H vs ds ∧ Wg.bltV b ds Qs ∧ Res W Z S ρ σ H Q Qs
section
variable {X : Cx} {W : Wd} {S : AS} {H : Hp}
/-- a list or a tuple, read -/
theorem RepT.seq {v : V} {l : List D} (h : RepT W S H v (.lst l) ∨ RepT W S H v (.tup l)) : ∃ a xs, v = .ref a ∧ (SqL W.K H a xs ∨ SqT W.K H a xs) ∧ Reps W S H xs l := by
  rcases h with h | h
  · obtain ⟨a, xs, rfl, h1, h2⟩ := h.lst
    exact ⟨a, xs, rfl, .inl (SqL.of h1), h2⟩
  · obtain ⟨a, xs, rfl, h1, h2⟩ := Rep.tupv h
    exact ⟨a, xs, rfl, .inr h1, h2⟩
theorem cr_len (hK : W.K = X.K) : CallR X (.builtin "len") (rBlt W .len) := by
  intro pins s σ' H vs us Q I rv h
  obtain ⟨Z, S, ρ, σ, ds, Qs, r, hd, hb, k⟩ := h
  unfold Wg.bltV at hb
  split at hb <;> try (first | contradiction | exact hb.elim)
  · rename_i l e
    cases hd with
    | cons h1 h2 =>
      cases h2
      obtain ⟨a, xs, rfl, q1, q2⟩ := RepT.seq (.inr h1)
      exact call_len_seq pins s σ' H _ us Q I rv ⟨a, xs, rfl, hK ▸ q1, by rw [q2.length]; exact k.val r (.int _) hb⟩
  · rename_i l e
    cases hd with
    | cons h1 h2 =>
      cases h2
      obtain ⟨a, xs, rfl, q1, q2⟩ := RepT.seq (.inl h1)
      exact call_len_seq pins s σ' H _ us Q I rv ⟨a, xs, rfl, hK ▸ q1, by rw [q2.length]; exact k.val r (.int _) hb⟩
  · rename_i l e
    cases hd with
    | cons h1 h2 =>
      cases h2
      obtain ⟨a, kvs, rfl, q1, q2⟩ := RepT.dct h1
      obtain ⟨u, eu, ru⟩ := vals1 rv
      subst eu
      cases (show u = Value.ref a from ru)
      exact d_len I q1 fun t s' I' => ⟨.int kvs.length, H, I', ⟨_, rfl⟩, by rw [q2.length]; exact k.val r (.int _) hb⟩
  · rename_i l e
    cases hd with
    | cons h1 h2 =>
      cases h2
      cases h1.str
      exact call_len_str pins s σ' H _ us Q I rv ⟨_, rfl, by rw [lenTA]; have := LB_line; omega, by rw [lenTA]; exact k.val r (.int _) hb.2⟩
  · rename_i k' ns e
    cases hd with
    | cons h1 h2 =>
      cases h2
      obtain ⟨a, rfl, q1⟩ := Rep.scrv h1
      exact call_len_seq pins s σ' H _ us Q I rv ⟨a, _, rfl, .inl (hK ▸ q1), by rw [List.length_map]; exact k.val r (.int _) hb⟩
theorem call_tuple_ofF : CallR X (.type "tuple") (fun xs H Q => ∃ p ys, xs = [.ref p] ∧ ((SqL X.K H p ys ∧ ∀ l ob, ob.dict = none → H l = none → Q (.ref l) (upd H l (.frz ob (.tup ys)))) ∨ (SqT X.K H p ys ∧ Q (.ref p) H))) := by
  intro pins s σ H xs us Q I r h
  obtain ⟨p, ys, rfl, h⟩ := h
  obtain ⟨u, rfl, rx⟩ := vals1 r
  cases rx
  rcases h with ⟨hq, q⟩ | ⟨hq, q⟩
  · obtain ⟨its, r', pl, hz⟩ := I.list hq
    have hlen := r'.length
    refine call_tuple_list pl.isList (fun h' kp => ?_) (by simp only [List.size_toArray] <;> omega)
    have I1 : Inv X pins σ H { s with heap := h' } := I.kept (t' := s.toks) kp
    exact ⟨.ref h'.objs.size, _, laidT (t' := s.toks) I1 r' hz, rfl, q _ _ rfl (I1.hok.fresh (Nat.le_refl _))⟩
  · obtain ⟨its, r', pl, hz⟩ := I.tuple hq
    exact call_tuple_same pl ⟨.ref p, H, I, rfl, q⟩
theorem cr_tuple (hK : W.K = X.K) : CallR X (.type "tuple") (rBlt W .tuple) := by
  intro pins s σ' H vs us Q I rv h
  obtain ⟨Z, S, ρ, σ, ds, Qs, r, hd, hb, k⟩ := h
  unfold Wg.bltV at hb
  split at hb <;> try (first | contradiction | exact hb.elim)
  · rename_i l e
    cases hd with
    | cons h1 h2 =>
      cases h2
      obtain ⟨a, xs, rfl, q1, q2⟩ := Rep.tupv h1
      exact call_tuple_ofF pins s σ' H _ us Q I rv ⟨a, xs, rfl, .inr ⟨hK ▸ q1, k.val r h1 hb⟩⟩
  · rename_i l e
    cases hd with
    | cons h1 h2 =>
      cases h2
      obtain ⟨a, xs, rfl, q1, q2⟩ := h1.lst
      exact call_tuple_ofF pins s σ' H _ us Q I rv ⟨a, xs, rfl, .inl ⟨SqL.of q1, fun p ob hd hp => k.tup r hd hp q2 hb⟩⟩
theorem cr_list (hK : W.K = X.K) (hcm : X.calm = true) : CallR X (.type "list") (rBlt W .list) := by
  intro pins s σ' H vs us Q I rv h
  obtain ⟨Z, S, ρ, σ, ds, Qs, r, hd, hb, k⟩ := h
  unfold Wg.bltV at hb
  split at hb <;> try (first | contradiction | exact hb.elim)
  · rename_i l e
    cases hd with
    | cons h1 h2 =>
      cases h2
      obtain ⟨a, xs, rfl, q1, q2⟩ := RepT.seq (.inr h1)
      exact call_list_of pins s σ' H _ us Q I rv ⟨a, xs, rfl, hK ▸ q1, fun p hp => k.lst r hp q2 hb⟩
  · rename_i l e
    cases hd with
    | cons h1 h2 =>
      cases h2
      obtain ⟨a, xs, rfl, q1, q2⟩ := RepT.seq (.inl h1)
      exact call_list_of pins s σ' H _ us Q I rv ⟨a, xs, rfl, hK ▸ q1, fun p hp => k.lst r hp q2 hb⟩
  · rename_i l e
    cases hd with
    | cons h1 h2 =>
      cases h2
      obtain ⟨a, kvs, rfl, q1, q2⟩ := RepT.dct h1
      exact call_keysR hcm pins s σ' H _ us Q I rv ⟨a, kvs, rfl, q1, fun p hp => k.lst r hp q2.keys hb⟩
  · rename_i k' ns e
    cases hd with
    | cons h1 h2 =>
      cases h2
      obtain ⟨a, rfl, q1⟩ := Rep.scrv h1
      exact call_list_of pins s σ' H _ us Q I rv ⟨a, _, rfl, .inl (hK ▸ q1), fun p hp => k.lst r hp (Reps.ints ns) hb⟩
theorem ints_of : ∀ {l : List D} {ns : List Int} {xs : List V}, l.mapM Wg.intOf = some ns → Reps W S H xs l → xs = ns.map V.int
  | [], ns, xs, h, r => by
    simp at h; subst h; cases r; rfl
  | d :: l, ns, xs, h, r => by
    rw [List.mapM_cons] at h
    cases r with
    | cons r1 r2 =>
      cases d with
      | int i =>
        simp only [Wg.intOf, Option.bind_eq_bind, Option.bind_some] at h
        cases e : l.mapM Wg.intOf with
        | none => rw [e] at h; simp at h
        | some ms =>
          rw [e] at h
          simp at h
          subst h
          cases r1
          rw [ints_of e r2]
          rfl
      | _ => simp [Wg.intOf] at h
theorem bls_of : ∀ {l : List D} {ns : List Bool} {xs : List V}, l.mapM Wg.truth = some ns → Reps W S H xs l → xs = ns.map V.bl
  | [], ns, xs, h, r => by
    simp at h; subst h; cases r; rfl
  | d :: l, ns, xs, h, r => by
    rw [List.mapM_cons] at h
    cases r with
    | cons r1 r2 =>
      cases d with
      | bl i =>
        simp only [Wg.truth, Option.bind_eq_bind, Option.bind_some] at h
        cases e : l.mapM Wg.truth with
        | none => rw [e] at h; simp at h
        | some ms =>
          rw [e] at h
          simp at h
          subst h
          cases r1
          rw [bls_of e r2]
          rfl
      | _ => simp [Wg.truth] at h
theorem cr_sumB (hK : W.K = X.K) (hc : X.calm = true) : CallR X (.builtin "sum") (rBlt W .sum) := by
  intro pins s σ' H vs us Q I rv h
  obtain ⟨Z, S, ρ, σ, ds, Qs, r, hd, hb, k⟩ := h
  unfold Wg.bltV at hb
  split at hb <;> try (first | contradiction | exact hb.elim)
  rename_i l e
  cases hd with
  | cons h1 h2 =>
    cases h2
    obtain ⟨a, xs, rfl, q1, q2⟩ := h1.lst
    unfold Wg.sumL at hb
    split at hb
    · rename_i ns e1
      have e2 := ints_of e1 q2
      subst e2
      exact cr_sum hc pins s σ' H _ us Q I rv ⟨a, ns, rfl, SqL.of q1, k.val r (.int _) hb⟩
    · exact hb.elim
theorem cr_allB (hK : W.K = X.K) (hc : X.calm = true) : CallR X (.builtin "all") (rBlt W .all) := by
  intro pins s σ' H vs us Q I rv h
  obtain ⟨Z, S, ρ, σ, ds, Qs, r, hd, hb, k⟩ := h
  unfold Wg.bltV at hb
  split at hb <;> try (first | contradiction | exact hb.elim)
  rename_i l e
  cases hd with
  | cons h1 h2 =>
    cases h2
    obtain ⟨a, xs, rfl, q1, q2⟩ := h1.lst
    unfold Wg.blsL at hb
    split at hb
    · rename_i ns e1
      have e2 := bls_of e1 q2
      subst e2
      exact cr_all hc pins s σ' H _ us Q I rv ⟨a, ns, rfl, SqL.of q1, k.val r (.bl _) hb⟩
    · exact hb.elim
theorem cr_anyB (hK : W.K = X.K) (hc : X.calm = true) : CallR X (.builtin "any") (rBlt W .any) := by
  intro pins s σ' H vs us Q I rv h
  obtain ⟨Z, S, ρ, σ, ds, Qs, r, hd, hb, k⟩ := h
  unfold Wg.bltV at hb
  split at hb <;> try (first | contradiction | exact hb.elim)
  rename_i l e
  cases hd with
  | cons h1 h2 =>
    cases h2
    obtain ⟨a, xs, rfl, q1, q2⟩ := h1.lst
    unfold Wg.blsL at hb
    split at hb
    · rename_i ns e1
      have e2 := bls_of e1 q2
      subst e2
      exact cr_any hc pins s σ' H _ us Q I rv ⟨a, ns, rfl, SqL.of q1, k.val r (.bl _) hb⟩
    · exact hb.elim
theorem cr_abs : CallR X (.builtin "abs") (rBlt W .abs) := by
  intro pins s σ' H vs us Q I rv h
  obtain ⟨Z, S, ρ, σ, ds, Qs, r, hd, hb, k⟩ := h
  unfold Wg.bltV at hb
  split at hb <;> try (first | contradiction | exact hb.elim)
  rename_i i e
  cases hd with
  | cons h1 h2 =>
    cases h2
    cases h1.int
    exact call_abs pins s σ' H _ us Q I rv ⟨i, rfl, k.val r (.int _) hb⟩
theorem cr_int : CallR X (.type "int") (rBlt W .int) := by
  intro pins s σ' H vs us Q I rv h
  obtain ⟨Z, S, ρ, σ, ds, Qs, r, hd, hb, k⟩ := h
  unfold Wg.bltV at hb
  split at hb <;> try (first | contradiction | exact hb.elim)
  · rename_i i e
    cases hd with
    | cons h1 h2 =>
      cases h2
      cases h1.int
      exact call_int1 pins s σ' H _ us Q I rv (.inl ⟨i, rfl, k.val r (.int _) hb⟩)
  · rename_i i e
    cases hd with
    | cons h1 h2 =>
      cases h2
      cases h1.bl
      exact call_int1 pins s σ' H _ us Q I rv (.inr ⟨i, rfl, k.val r (.int _) hb⟩)
/-! ### sorted, min, max -/
theorem mem_toPs {l : List D} {d : PyData} (h : d ∈ toPs l) : ∃ x ∈ l, toP x = d := by
  rw [toPs_map] at h
  exact List.mem_map.mp h
theorem alikeAll_of {l : List D} (h : ∀ x ∈ l, ∀ y ∈ l, D.alike x y = true) : PySem.W.AllAlike (l.map toP) := by
  intro d hd e he
  obtain ⟨x, hx, rfl⟩ := List.mem_map.mp hd
  obtain ⟨y, hy, rfl⟩ := List.mem_map.mp he
  exact alike_toP _ _ (h x hx y hy)
theorem sortable_of {l : List D} (hn : ∀ x ∈ l, D.eqv x .non = false) (h : Wg.sortable l) : PySem.W.Sortable (l.map toP) := by
  rcases h with h | h
  · refine .inl fun d hd => ?_
    obtain ⟨x, hx, rfl⟩ := List.mem_map.mp hd
    obtain ⟨y, r, rfl⟩ := h x hx
    exact ⟨toP y, toPs r, by rw [toP, toPs]⟩
  · refine .inr fun d hd => ?_
    obtain ⟨x, hx, rfl⟩ := List.mem_map.mp hd
    refine ⟨nn_toP (hn x hx), fun xs e => ?_⟩
    have t := h x hx
    cases x <;> simp_all [toP, D.isTup]
open PySem.W (EachIs) in
theorem each_of {H' : Hp} : ∀ {xs : List V} {us : List Value} {l : List D}, Vals xs us → Reps W S H' xs l → EachIs (fun u d => ∃ v, RelV v u ∧ Rep W S H' v d) us l
  | _, _, _, .nil, .nil => .nil
  | _, _, _, .cons r1 r2, .cons h1 h2 => .cons ⟨_, r1, h1⟩ (each_of r2 h2)
open PySem.W (EachIs) in
theorem of_each {H' : Hp} : ∀ {us : List Value} {l : List D}, EachIs (fun u d => ∃ v, RelV v u ∧ Rep W S H' v d) us l → ∃ xs, Vals xs us ∧ Reps W S H' xs l
  | _, _, .nil => ⟨[], .nil, .nil⟩
  | _, _, .cons h1 t => by
    obtain ⟨v, r1, q1⟩ := h1
    obtain ⟨xs, r2, q2⟩ := of_each t
    exact ⟨v :: xs, .cons r1 r2, .cons q1 q2⟩
theorem leD_eq {l : List D} (h : ∀ x ∈ l, ∀ y ∈ l, D.alike x y = true) : ∀ a ∈ l, ∀ b ∈ l, PySem.W.dataLe false toP a b = Wg.leD a b := fun a ha b hb => by
  show (!PySem.W.dataLt (toP b) (toP a)) = _
  rw [lt_toP _ _ (h b hb a ha)]
  rfl
theorem cr_sortedB (hK : W.K = X.K) (hu : X.A.units + 65 < cLine) : CallR X (.builtin "sorted") (rBlt W .sorted) := by
  intro pins s σ' H vs us Q I rv h
  obtain ⟨Z, S, ρ, σ, ds, Qs, r, hd, hb, k⟩ := h
  have go : ∀ (l : List D) (v : V), (RepT W S H v (.lst l) ∨ RepT W S H v (.tup l)) → vs = [v] → Wg.allAlike l → Wg.sortable l → Qs (.ol (Wg.sortD l)) → wpAny (model X.prog X.w) X.A (call (.builtin "sorted") us) (EP X pins σ' Q) X.xe s := by
    intro l v hv e0 ha hs hq
    subst e0
    obtain ⟨u, rfl, ru⟩ := vals1 rv
    have hpl : ∀ x ∈ l, (toP x).depth ≤ 8 := fun x hx => (pl_toP 8 x (ha.2 x hx).1).2
    obtain ⟨a, xs, rfl, q1, q2⟩ := RepT.seq hv
    cases ru
    have hdu : ∀ b, b ∈ l → X.A.units + 2 + (toP b).depth < cLine := fun b hb => by have := hpl b hb; omega
    have fin : ∀ (its : List Value), Vals xs its → xs.length ≤ sizeLine → ∀ out : List Value, out.length = l.length → PySem.W.EachIs (fun u d => ∃ v, RelV v u ∧ Rep W S H v d) out (l.mergeSort (PySem.W.dataLe false toP)) →
        EP X pins σ' Q (.ref (s.heap.objs.size + 1)) { s with heap := sortedAll s.heap its out.toArray } := by
      intro its hits hz out ho hE
      rw [PySem.W.sort_congr (leD_eq ha.1)] at hE
      obtain ⟨ys, v1, v2⟩ := of_each hE
      obtain ⟨ep, he'⟩ := PyProof.Rows.sortedAll_at s.heap its out.toArray
      have hlen : ys.length ≤ sizeLine := by rw [v1.length, ho, ← q2.length]; exact hz
      exact ⟨.ref _, upd H (s.heap.objs.size + 1) (.lst ys), I.laid (t' := s.toks) (fun _ _ => PyProof.Rows.sortedAll_old) (Nat.le_succ _) ⟨hlen, out, ep, v1, he'⟩, rfl, k.lst r (I.hok.fresh (Nat.le_succ _)) v2 hq⟩
    have er : ∀ its : List Value, Vals xs its → PySem.W.EachIs (fun v b => ∃ as, Reads s.heap v (toP b) as) its l := fun its hits => by
      have e1 := each_of hits q2
      refine (PySem.W.each_mem e1).mono fun u d ⟨⟨v, r1, r2⟩, hm⟩ => ?_
      exact Dp.reads I _ _ _ (hK ▸ Rep.dp 8 d v r2 (ha.2 d hm).1) r1
    rcases q1 with q1 | q1
    · obtain ⟨its, rv', hl, hz⟩ := I.list (hK ▸ q1)
      exact PySem.W.sorted_data (enc := toP) (R := fun u d => ∃ v, RelV v u ∧ Rep W S H v d) hl.isList (each_of rv' q2) (er its rv') (alikeAll_of ha.1) (sortable_of (fun x hx => (ha.2 x hx).2) hs) (by rw [← q2.length]; exact hz) hdu (fin its rv' hz)
    · obtain ⟨its, rv', hl, hz⟩ := I.tuple (hK ▸ q1)
      exact sorted_dataT (enc := toP) (R := fun u d => ∃ v, RelV v u ∧ Rep W S H v d) hl (each_of rv' q2) (er its rv') (alikeAll_of ha.1) (sortable_of (fun x hx => (ha.2 x hx).2) hs) (by rw [← q2.length]; exact hz) hdu (fin its rv' hz)
  unfold Wg.bltV at hb
  split at hb <;> try (first | contradiction | exact hb.elim)
  · cases hd with
    | cons h1 h2 => cases h2; exact go _ _ (.inl h1) rfl hb.1 hb.2.1 hb.2.2
  · cases hd with
    | cons h1 h2 => cases h2; exact go _ _ (.inr h1) rfl hb.1 hb.2.1 hb.2.2
mutual
theorem toP_inj : ∀ (n m : Nat) (a b : D), D.pl n a = true → D.pl m b = true → toP a = toP b → a = b
  | n, m, .non, b, _, hb, e => by cases b <;> simp_all [toP, D.pl]
  | n, m, .bl x, b, _, hb, e => by cases b <;> simp_all [toP, D.pl]
  | n, m, .int x, b, _, hb, e => by cases b <;> simp_all [toP, D.pl]
  | n, m, .str x, b, _, hb, e => by cases b <;> simp_all [toP, D.pl]
  | 0, m, .tup l, b, ha, hb, e => by simp [D.pl] at ha
  | n + 1, m, .tup l, b, ha, hb, e => by
    cases b with
    | tup k =>
      cases m with
      | zero => simp [D.pl] at hb
      | succ m =>
        simp only [toP, PyData.tuple.injEq] at e
        rw [toPs_inj n m l k (by simpa [D.pl] using ha) (by simpa [D.pl] using hb) e]
    | _ => simp [toP] at e
  | 0, m, .lst l, b, ha, hb, e => by simp [D.pl] at ha
  | n + 1, m, .lst l, b, ha, hb, e => by
    cases b with
    | lst k =>
      cases m with
      | zero => simp [D.pl] at hb
      | succ m =>
        simp only [toP, PyData.list.injEq] at e
        rw [toPs_inj n m l k (by simpa [D.pl] using ha) (by simpa [D.pl] using hb) e]
    | _ => simp [toP] at e
  | n, m, .dct _, b, ha, _, _ => by cases n <;> simp [D.pl] at ha
  | n, m, .fn _ _, b, ha, _, _ => by cases n <;> simp [D.pl] at ha
  | n, m, .pool, b, ha, _, _ => by cases n <;> simp [D.pl] at ha
theorem toPs_inj : ∀ (n m : Nat) (a b : List D), D.pls n a = true → D.pls m b = true → toPs a = toPs b → a = b
  | n, m, [], b, _, _, e => by cases b <;> simp_all [toPs]
  | n, m, x :: xs, b, ha, hb, e => by
    cases b with
    | nil => simp [toPs] at e
    | cons y ys =>
      have ha' : D.pl n x = true ∧ D.pls n xs = true := by simpa [D.pls] using ha
      have hb' : D.pl m y = true ∧ D.pls m ys = true := by simpa [D.pls] using hb
      simp only [toPs, List.cons.injEq] at e
      rw [toP_inj n m x y ha'.1 hb'.1 e.1, toPs_inj n m xs ys ha'.2 hb'.2 e.2]
end
theorem foldl_mem {α : Type} (f : α → α → α) (hf : ∀ a b, f a b = a ∨ f a b = b) : ∀ (xs : List α) (x : α), xs.foldl f x ∈ x :: xs
  | [], x => by simp
  | y :: ys, x => by
    have h := foldl_mem f hf ys (f x y)
    rw [List.foldl_cons]
    rcases List.mem_cons.mp h with h | h
    · rw [h]
      rcases hf x y with q | q
      · rw [q]; simp
      · rw [q]; simp
    · exact List.mem_cons_of_mem _ (List.mem_cons_of_mem _ h)
theorem minD_mem (x : D) (xs : List D) : Wg.minD x xs ∈ x :: xs := foldl_mem _ (fun a b => by split <;> simp) xs x
theorem maxD_mem (x : D) (xs : List D) : Wg.maxD x xs ∈ x :: xs := foldl_mem _ (fun a b => by split <;> simp) xs x
theorem minD_toP : ∀ (xs : List D) (x : D), (∀ a ∈ x :: xs, ∀ b ∈ x :: xs, D.alike a b = true) → PySem.W.minD (toP x) (toPs xs) = toP (Wg.minD x xs)
  | [], x, _ => by rw [toPs]; rfl
  | y :: ys, x, h => by
    have e : PySem.W.dataLt (toP y) (toP x) = D.lt y x := lt_toP _ _ (h y (by simp) x (by simp))
    rw [toPs]
    show PySem.W.minD (if PySem.W.dataLt (toP y) (toP x) = true then toP y else toP x) (toPs ys) = toP (Wg.minD (if D.lt y x then y else x) ys)
    rw [e]
    split
    · exact minD_toP ys y fun a ha b hb => h a (List.mem_cons_of_mem _ ha) b (List.mem_cons_of_mem _ hb)
    · refine minD_toP ys x fun a ha b hb => h a ?_ b ?_
      · rcases List.mem_cons.mp ha with q | q
        · rw [q]; simp
        · simp [q]
      · rcases List.mem_cons.mp hb with q | q
        · rw [q]; simp
        · simp [q]
theorem maxD_toP : ∀ (xs : List D) (x : D), (∀ a ∈ x :: xs, ∀ b ∈ x :: xs, D.alike a b = true) → PySem.W.maxD (toP x) (toPs xs) = toP (Wg.maxD x xs)
  | [], x, _ => by rw [toPs]; rfl
  | y :: ys, x, h => by
    have e : PySem.W.dataLt (toP x) (toP y) = D.lt x y := lt_toP _ _ (h x (by simp) y (by simp))
    rw [toPs]
    show PySem.W.maxD (if PySem.W.dataLt (toP x) (toP y) = true then toP y else toP x) (toPs ys) = toP (Wg.maxD (if D.lt x y then y else x) ys)
    rw [e]
    split
    · exact maxD_toP ys y fun a ha b hb => h a (List.mem_cons_of_mem _ ha) b (List.mem_cons_of_mem _ hb)
    · refine maxD_toP ys x fun a ha b hb => h a ?_ b ?_
      · rcases List.mem_cons.mp ha with q | q
        · rw [q]; simp
        · simp [q]
      · rcases List.mem_cons.mp hb with q | q
        · rw [q]; simp
        · simp [q]
end
section
variable {prog : Program} {w : World} {A : Around} {E : Value → Shared → Prop} {s : Shared}
theorem args_max3 (a b c : Value) : argsOk "max" ⟨[a, b, c], []⟩ := by unfold argsOk; kernel_rfl
theorem call_max_three {a b c : Value} {Q : Value → Shared → Prop}
    (h : wpAny (model prog w) A.in1 (pyIter (.ref s.heap.objs.size)) (fun it s₂ => ∃ I fp wr n P St bt, it = .ref I ∧ Walks prog w A.in1 I fp wr n P St ∧ St 0 s₂.heap ∧ (∀ b ∈ fp, b < s₂.heap.objs.size) ∧ 0 < n ∧ CmpOf prog w A.in1 .Gt P bt ∧
      ∀ v h' tk, P (argBest bt (n - 1)) v → (∀ b o, b ∉ wr → s₂.heap.get? b = some o → h'.get? b = some o) → Q v { s₂ with heap := h', toks := tk }) E
      { s with heap := s.heap.push { cls := .type "tuple", data := .seq #[a, b, c] } }) :
    wpAny (model prog w) A (call (.builtin "max") [a, b, c]) Q E s := by
  have hname : (toString "max" ++ toString ".loop" : String) = "max.loop" := by decide
  refine call_function_tree F.kind_max F.plain_max F.entry_max (args_max3 _ _ _) ?_
  show wpAny _ A.in1 (Builtin.Builtins.bindParams "max" ["key", "default"] 0 ⟨[], []⟩ >>= _) _ _ s
  refine wpAny_bind (wpAny_of_eq (show Builtin.Builtins.bindParams "max" ["key", "default"] 0 ⟨[], []⟩ = pure [none, none] from rfl) ?_)
  show wpAny _ A.in1 (newTuple [a, b, c] >>= _) _ _ s
  refine wpAny_bind (wpAny_newObj_type ?_)
  refine wpAny_bind (wpAny_mono h (fun it s₂ h₂ => ?_) fun _ _ e => e)
  obtain ⟨I, fp, wr, n, P, St, bt, rfl, W, hst, hfp, hn, hcmp, hQ⟩ := h₂
  refine wpAny_bind (wpAny_newObj_type ?_)
  have hSf : s₂.heap.objs.size ∉ fp := fun hm => Nat.lt_irrefl _ (hfp _ hm)
  rw [hname]
  refine wpAny_pure ⟨plainId_quiet F.plain_max_loop _, codeAny_max_loop_first W bt hcmp s₂.heap.objs.size hSf hn (W.frame _ _ _ hst fun b _ o e => Heap.get?_push_of_some _ e) (Heap.get?_push_size _ rfl) fun v h' tk hP hk => ?_⟩
  exact hQ v h' tk hP fun b o hbw e => hk b o hbw (Nat.ne_of_lt (Heap.lt_size e)) (Heap.get?_push_of_some _ e)
theorem max_three_ints {a b c : Int} {t u x : Tok} {Q : Value → Shared → Prop} (hh : A.handled = none)
    (h : ∀ y h' tk, (∀ c o, s.heap.get? c = some o → h'.get? c = some o) → Q (.int (if (if a < b then b else a) < c then c else (if a < b then b else a)) y) { s with heap := h', toks := tk }) :
    wpAny (model prog w) A (call (.builtin "max") [.int a t, .int b u, .int c x]) Q E s := by
  have hT : (s.heap.push { cls := .type "tuple", data := .seq #[.int a t, .int b u, .int c x] }).IsTuple s.heap.objs.size (intItems #[(a, t), (b, u), (c, x)]) := ⟨_, Heap.get?_push_size _ rfl, rfl, 0, by simp [intItems]⟩
  refine call_max_three (wpAny_pyIter_tuple hT ?_)
  have hsz : (s.heap.push { cls := .type "tuple", data := .seq #[.int a t, .int b u, .int c x] }).objs.size = s.heap.objs.size + 1 := Heap.size_push ..
  refine ⟨_, [_, s.heap.objs.size], [_], _, _, _, _, rfl, Walks.tuple (A := A.in1) hh _ s.heap.objs.size (by rw [hsz]; exact Nat.ne_of_lt (Nat.lt_succ_self _)) (intItems #[(a, t), (b, u), (c, x)]),
    ⟨⟨_, Heap.get?_push_size _ rfl, rfl, rfl⟩, hT.push _⟩, fun c hc => ?_, by simp [intItems], CmpOf.ints_gt (numAt #[(a, t), (b, u), (c, x)]) (fun _ _ => intItems_at), fun v h' tk hP hk => ?_⟩
  · show c < ((s.heap.push _).push _).objs.size
    rw [Heap.size_push, hsz]
    rcases List.mem_cons.mp hc with rfl | hc
    · rw [hsz]; exact Nat.lt_succ_self _
    · rcases List.mem_cons.mp hc with rfl | hc
      · exact Nat.lt_succ_of_lt (Nat.lt_succ_self _)
      · cases hc
  · have hold : ∀ c o, s.heap.get? c = some o → h'.get? c = some o := fun c o e => by
      refine hk c o (fun hm => ?_) (Heap.get?_push_of_some _ (Heap.get?_push_of_some _ e))
      rcases List.mem_cons.mp hm with e1 | hm
      · have := Heap.lt_size e; rw [e1, hsz] at this; exact Nat.lt_irrefl _ (Nat.lt_of_succ_lt this)
      · cases hm
    have hP' : (intItems #[(a, t), (b, u), (c, x)])[argBest (fun i j => decide (numAt #[(a, t), (b, u), (c, x)] i > numAt #[(a, t), (b, u), (c, x)] j)) 2]? = some v := by
      have hsz2 : (intItems #[(a, t), (b, u), (c, x)]).size - 1 = 2 := by simp [intItems]
      rw [← hsz2]; exact hP
    have hv : ∃ y, v = Value.int (if (if a < b then b else a) < c then c else (if a < b then b else a)) y := by
      by_cases h1 : a < b
      · by_cases h2 : b < c
        · have e : argBest (fun i j => decide (numAt #[(a, t), (b, u), (c, x)] i > numAt #[(a, t), (b, u), (c, x)] j)) 2 = 2 := by simp [argBest, numAt, h1, h2]
          rw [e] at hP'
          exact ⟨x, by simpa [intItems, h1, h2] using hP'.symm⟩
        · have e : argBest (fun i j => decide (numAt #[(a, t), (b, u), (c, x)] i > numAt #[(a, t), (b, u), (c, x)] j)) 2 = 1 := by simp [argBest, numAt, h1, h2]
          rw [e] at hP'
          exact ⟨u, by simpa [intItems, h1, h2] using hP'.symm⟩
      · by_cases h2 : a < c
        · have e : argBest (fun i j => decide (numAt #[(a, t), (b, u), (c, x)] i > numAt #[(a, t), (b, u), (c, x)] j)) 2 = 2 := by simp [argBest, numAt, h1, h2]
          rw [e] at hP'
          exact ⟨x, by simpa [intItems, h1, h2] using hP'.symm⟩
        · have e : argBest (fun i j => decide (numAt #[(a, t), (b, u), (c, x)] i > numAt #[(a, t), (b, u), (c, x)] j)) 2 = 0 := by simp [argBest, numAt, h1, h2]
          rw [e] at hP'
          exact ⟨t, by simpa [intItems, h1, h2] using hP'.symm⟩
    obtain ⟨y, hv⟩ := hv
    rw [hv]
    exact h y h' tk hold
end
section
variable {X : Cx} {W : Wd} {S : AS} {H : Hp}
/-- the item that min, max hand back -/
theorem best_item {n : Nat} {xs : List V} {its : List Value} {l : List D} {i : Nat} {v : Value} {h' : Heap} {bs : List Addr} {d : D} {pins : List (Addr × Obj)} {σ : L2.St} {s : Shared} (hK : W.K = X.K) (I : Inv X pins σ H s) (hp : ∀ x ∈ l, D.pl n x = true) (rv : Vals xs its) (q : Reps W S H xs l)
    (hi : its[i]? = some v) (hr : Reads h' v (toP d) bs) (hd : d ∈ l) (kp : ∀ b o, s.heap.get? b = some o → h'.get? b = some o) : ∃ x, RelV x v ∧ Rep W S H x d := by
  obtain ⟨x, h1, h2⟩ : ∃ x, xs[i]? = some x ∧ RelV x v := by
    have hlt : i < xs.length := by rw [rv.length]; exact (List.getElem?_eq_some_iff.mp hi).1
    obtain ⟨u, e1, e2⟩ := rv.get (List.getElem?_eq_getElem hlt)
    rw [hi] at e1; cases e1
    exact ⟨_, List.getElem?_eq_getElem hlt, e2⟩
  obtain ⟨e, h3, h4⟩ := q.get' h1
  have hm := List.mem_of_getElem? h3
  obtain ⟨as, h5⟩ := Dp.reads I _ _ _ (hK ▸ Rep.dp n e x h4 (hp e hm)) h2
  have h6 := PyProof.Rows.Reads.keeps kp h5
  have e1 : toP e = toP d := PySem.SeqAt.plain_unique _ _ _ _ _ (plain_of (hp e hm)) h6 hr
  have e2 := toP_inj n n e d (hp e hm) (hp d hd) e1
  subst e2
  exact ⟨x, h2, h4⟩
theorem depthAll_le {n : Nat} : ∀ {l : List D}, (∀ x ∈ l, D.pl n x = true) → PyData.depthAll (toPs l) ≤ n
  | [], _ => by rw [toPs]; exact Nat.zero_le _
  | x :: xs, h => by
    rw [toPs]
    have a := (pl_toP n x (h x (by simp))).2
    have b := depthAll_le (l := xs) fun y hy => h y (by simp [hy])
    simp only [PyData.depthAll]
    omega
theorem plainAll_of {n : Nat} : ∀ {l : List D}, (∀ x ∈ l, D.pl n x = true) → D.pls n l = true
  | [], _ => by simp [D.pls]
  | x :: xs, h => by
    rw [D.pls, h x (by simp), plainAll_of (l := xs) fun y hy => h y (by simp [hy])]
    rfl
theorem cr_minB (hK : W.K = X.K) (hc : X.calm = true) (hu : X.A.units + 65 < cLine) : CallR X (.builtin "min") (rBlt W .min) := by
  intro pins s σ' H vs us Q I rv h
  obtain ⟨Z, S, ρ, σ, ds, Qs, r, hd, hb, k⟩ := h
  have go : ∀ (x : D) (l : List D) (v : V), (RepT W S H v (.lst (x :: l)) ∨ RepT W S H v (.tup (x :: l))) → vs = [v] → Wg.allAlike (x :: l) → Qs (.sh (Wg.minD x l)) → wpAny (model X.prog X.w) X.A (call (.builtin "min") us) (EP X pins σ' Q) X.xe s := by
    intro x l v hv e0 ha hq
    subst e0
    obtain ⟨u, rfl, ru⟩ := vals1 rv
    have hp : ∀ y ∈ x :: l, D.pl 8 y = true := fun y hy => (ha.2 y hy).1
    obtain ⟨a, xs, rfl, q1, q2⟩ := RepT.seq hv
    cases ru
    have hde := depthAll_le hp
    rw [toPs] at hde
    have hal : PySem.W.AlikeAll (toP x :: toPs l) := by
      refine ⟨?_, fun d hd => ?_⟩
      · have := alikeAll_of ha.1
        rw [← toPs_map, toPs] at this
        exact this
      · rw [← toPs] at hd
        obtain ⟨y, hy, rfl⟩ := mem_toPs hd
        exact nn_toP (ha.2 y hy).2
    rcases q1 with q1 | q1
    · obtain ⟨its, rv', hl, hz⟩ := I.list (hK ▸ q1)
      obtain ⟨as, hr⟩ := Dp.readsAll I _ _ its (hK ▸ Reps.dp 8 (x :: l) xs q2 (plainAll_of hp)) rv'
      rw [toPs] at hr
      refine PySem.W.min_list_data (I.ok.hd hc) hl.isList (by simpa using hr) hal (by omega) fun i v h' tk bs hi hrd kp => ?_
      rw [minD_toP l x ha.1] at hrd
      obtain ⟨y, r1, r2⟩ := best_item hK I hp rv' q2 (by simpa using hi) hrd (minD_mem x l) kp
      exact ⟨y, H, I.kept kp, r1, k.val r r2 hq⟩
    · obtain ⟨its, rv', hl, hz⟩ := I.tuple (hK ▸ q1)
      obtain ⟨as, hr⟩ := Dp.readsAll I _ _ its (hK ▸ Reps.dp 8 (x :: l) xs q2 (plainAll_of hp)) rv'
      rw [toPs] at hr
      refine PySem.W.min_tuple_data (I.ok.hd hc) hl (by simpa using hr) hal (by omega) fun i v h' tk bs hi hrd kp => ?_
      rw [minD_toP l x ha.1] at hrd
      obtain ⟨y, r1, r2⟩ := best_item hK I hp rv' q2 (by simpa using hi) hrd (minD_mem x l) kp
      exact ⟨y, H, I.kept kp, r1, k.val r r2 hq⟩
  unfold Wg.bltV at hb
  split at hb <;> try (first | contradiction | exact hb.elim)
  · unfold Wg.minL at hb
    split at hb
    · cases hd with
      | cons h1 h2 => cases h2; exact go _ _ _ (.inl h1) rfl hb.1 hb.2
    · exact hb.elim
  · unfold Wg.minL at hb
    split at hb
    · cases hd with
      | cons h1 h2 => cases h2; exact go _ _ _ (.inr h1) rfl hb.1 hb.2
    · exact hb.elim
  · rename_i i j e
    cases hd with
    | cons h1 h2 =>
      cases h2 with
      | cons h2 h3 =>
        cases h3; cases h1.int; cases h2.int
        exact call_min2 hc pins s σ' H _ us Q I rv ⟨i, j, rfl, k.val r (.int _) hb⟩
theorem cr_maxB (hK : W.K = X.K) (hc : X.calm = true) (hu : X.A.units + 65 < cLine) : CallR X (.builtin "max") (rBlt W .max) := by
  intro pins s σ' H vs us Q I rv h
  obtain ⟨Z, S, ρ, σ, ds, Qs, r, hd, hb, k⟩ := h
  have go : ∀ (x : D) (l : List D) (v : V), (RepT W S H v (.lst (x :: l)) ∨ RepT W S H v (.tup (x :: l))) → vs = [v] → Wg.allAlike (x :: l) → Qs (.sh (Wg.maxD x l)) → wpAny (model X.prog X.w) X.A (call (.builtin "max") us) (EP X pins σ' Q) X.xe s := by
    intro x l v hv e0 ha hq
    subst e0
    obtain ⟨u, rfl, ru⟩ := vals1 rv
    have hp : ∀ y ∈ x :: l, D.pl 8 y = true := fun y hy => (ha.2 y hy).1
    obtain ⟨a, xs, rfl, q1, q2⟩ := RepT.seq hv
    cases ru
    have hde := depthAll_le hp
    rw [toPs] at hde
    have hal : PySem.W.AlikeAll (toP x :: toPs l) := by
      refine ⟨?_, fun d hd => ?_⟩
      · have := alikeAll_of ha.1
        rw [← toPs_map, toPs] at this
        exact this
      · rw [← toPs] at hd
        obtain ⟨y, hy, rfl⟩ := mem_toPs hd
        exact nn_toP (ha.2 y hy).2
    rcases q1 with q1 | q1
    · obtain ⟨its, rv', hl, hz⟩ := I.list (hK ▸ q1)
      obtain ⟨as, hr⟩ := Dp.readsAll I _ _ its (hK ▸ Reps.dp 8 (x :: l) xs q2 (plainAll_of hp)) rv'
      rw [toPs] at hr
      refine PySem.W.max_list_data (I.ok.hd hc) hl.isList (by simpa using hr) hal (by omega) fun i v h' tk bs hi hrd kp => ?_
      rw [maxD_toP l x ha.1] at hrd
      obtain ⟨y, r1, r2⟩ := best_item hK I hp rv' q2 (by simpa using hi) hrd (maxD_mem x l) kp
      exact ⟨y, H, I.kept kp, r1, k.val r r2 hq⟩
    · obtain ⟨its, rv', hl, hz⟩ := I.tuple (hK ▸ q1)
      obtain ⟨as, hr⟩ := Dp.readsAll I _ _ its (hK ▸ Reps.dp 8 (x :: l) xs q2 (plainAll_of hp)) rv'
      rw [toPs] at hr
      refine PySem.W.max_tuple_data (I.ok.hd hc) hl (by simpa using hr) hal (by omega) fun i v h' tk bs hi hrd kp => ?_
      rw [maxD_toP l x ha.1] at hrd
      obtain ⟨y, r1, r2⟩ := best_item hK I hp rv' q2 (by simpa using hi) hrd (maxD_mem x l) kp
      exact ⟨y, H, I.kept kp, r1, k.val r r2 hq⟩
  unfold Wg.bltV at hb
  split at hb <;> try (first | contradiction | exact hb.elim)
  · unfold Wg.maxL at hb
    split at hb
    · cases hd with
      | cons h1 h2 => cases h2; exact go _ _ _ (.inl h1) rfl hb.1 hb.2
    · exact hb.elim
  · unfold Wg.maxL at hb
    split at hb
    · cases hd with
      | cons h1 h2 => cases h2; exact go _ _ _ (.inr h1) rfl hb.1 hb.2
    · exact hb.elim
  · rename_i i j e
    cases hd with
    | cons h1 h2 =>
      cases h2 with
      | cons h2 h3 =>
        cases h3; cases h1.int; cases h2.int
        exact call_max2 hc pins s σ' H _ us Q I rv ⟨i, j, rfl, k.val r (.int _) hb⟩
  · rename_i i j m e
    cases hd with
    | cons h1 h2 =>
      cases h2 with
      | cons h2 h3 =>
        cases h3 with
        | cons h3 h4 =>
          cases h4; cases h1.int; cases h2.int; cases h3.int
          cases rv with
          | cons r1 r2 =>
            cases r2 with
            | cons r2 r3 =>
              cases r3 with
              | cons r3 r4 =>
                cases r4
                obtain ⟨t1, rfl⟩ := r1
                obtain ⟨t2, rfl⟩ := r2
                obtain ⟨t3, rfl⟩ := r3
                exact max_three_ints (I.ok.hd hc) fun y h' tk kp => ⟨.int _, H, I.kept kp, ⟨_, rfl⟩, k.val r (.int _) hb⟩
end
end WgS
set_option Elab.async false
set_option linter.all false
set_option maxRecDepth 100000
set_option maxHeartbeats 1000000
/-! WgS: subscripts, slices, methods by values. -/
namespace WgS
open PySem PySem.Spec PyProof.Rows L2
open Wg (partD D Slot Opd Ex Exs Tg Tgs It Kvs Sts BOp COp Blt Mth LB)
section
variable {X : Cx} {W : Wd} {S : AS} {H : Hp}
theorem ixOf_eq (n : Nat) (i : Int) : Wg.ixOf n i = ixN n i := rfl
theorem atI_of {vs : List V} {l : List D} {i : Int} {d : D} (h : Reps W S H vs l) (e : (Wg.ixOf l.length i).bind (l[·]?) = some d) : ∃ v, atI vs i = some v ∧ Rep W S H v d := by
  rw [ixOf_eq, ← h.length] at e
  unfold atI
  cases q : ixN vs.length i with
  | none => rw [q] at e; simp at e
  | some j =>
    rw [q] at e
    simp only [Option.bind_some] at e ⊢
    exact h.get e
def rIdx (W : Wd) : R2 := fun x y H Q => ∃ S x' y' Qd, RepT W S H x x' ∧ RepT W S H y y' ∧ Wg.idxV x' y' Qd ∧ ∀ v d, Rep W S H v d → Qd d → Q v H
theorem ix_idx (hK : W.K = X.K) (hu : X.A.units + 65 < cLine) : IxR X (rIdx W) := by
  intro value slice pins s σ H x y v u Q I rx ry h hs
  obtain ⟨S, x', y', Qd, hx, hy, hi, k⟩ := h
  have go : rIx X.K x y H Q ∨ ∃ d ks k v, x = .ref d ∧ y = kV k ∧ Rd H d (.dK ks) ∧ valV ks k = some v ∧ Q v H := by
    cases x' with
    | tup l =>
      cases y' with
      | int i =>
        cases hy.int
        obtain ⟨a, xs, rfl, h1, h2⟩ := Rep.tupv hx
        have hi : (match (Wg.ixOf l.length i).bind (l[·]?) with | some d => Qd d | none => False) := hi
        split at hi
        · rename_i d e
          obtain ⟨w, e1, e2⟩ := atI_of h2 e
          exact .inl (.inr (.inl ⟨a, xs, i, w, rfl, rfl, hK ▸ h1, e1, k _ _ e2 hi⟩))
        · exact hi.elim
      | _ => exact (show False from hi).elim
    | lst l =>
      cases y' with
      | int i =>
        cases hy.int
        obtain ⟨a, xs, rfl, h1, h2⟩ := hx.lst
        have hi : (match (Wg.ixOf l.length i).bind (l[·]?) with | some d => Qd d | none => False) := hi
        split at hi
        · rename_i d e
          obtain ⟨w, e1, e2⟩ := atI_of h2 e
          exact .inl (.inl ⟨a, xs, i, w, rfl, rfl, SqL.of h1, e1, k _ _ e2 hi⟩)
        · exact hi.elim
      | _ => exact (show False from hi).elim
    | str l =>
      cases y' with
      | int i =>
        cases hy.int
        cases hx.str
        obtain ⟨hz, hi⟩ : l.length ≤ LB ∧ (match (Wg.ixOf l.length i).bind (l[·]?) with | some c => Qd (.str [c]) | none => False) := hi
        split at hi
        · rename_i d e
          refine .inl (.inr (.inr ⟨_, i, d, rfl, rfl, by rw [lenTA]; have := LB_line; omega, ?_, k _ _ (.str [d]) hi⟩))
          unfold atI
          rw [← ixOf_eq]
          simpa using e
        · exact hi.elim
      | _ => exact (show False from hi).elim
    | dct l =>
      obtain ⟨p1, hi⟩ : Wg.keysOk l y' = true ∧ (match Wg.lookD l y' with | some d => Qd d | none => False) := hi
      obtain ⟨key, rfl⟩ := keysOk_key p1
      obtain ⟨a, ks, rfl, ha, hr⟩ := hx.dct
      rcases hr.look key with ⟨e, _⟩ | ⟨d, v', e, e2, rv⟩
      · rw [e] at hi; exact hi.elim
      · rw [e] at hi
        exact .inr ⟨a, ks, key, v', rfl, hy.key, ha, e2, k _ _ rv hi⟩
    | scr k' ns =>
      cases y' with
      | int i =>
        cases hy.int
        obtain ⟨a, rfl, h1⟩ := Rep.scrv hx
        have hi : (match (Wg.ixOf (ns.map D.int).length i).bind ((ns.map D.int)[·]?) with | some d => Qd d | none => False) := hi
        split at hi
        · rename_i d e
          obtain ⟨w, e1, e2⟩ := atI_of (Reps.ints (W := W) (S := S) (H := H) ns) e
          exact .inl (.inl ⟨a, _, i, w, rfl, rfl, hK ▸ h1, e1, k _ _ e2 hi⟩)
        · exact hi.elim
      | _ => exact (show False from hi).elim
    | _ => exact (show False from hi).elim
  exact (ix_seq.or (ix_dct hu)) value slice pins s σ H x y v u Q I rx ry go hs
theorem cutAt_eq {n d : Nat} {o : Option Int} {K : Nat → Prop} (h : Wg.cutAt n d (partD o) K) : K (HT.sIx n d o) := by
  cases o with
  | none => exact h
  | some v =>
    have h : K (if v < 0 then (max (v + (n : Int)) 0).toNat else (min v (n : Int)).toNat) := h
    have e : (if v < 0 then (max (v + (n : Int)) 0).toNat else (min v (n : Int)).toNat) = HT.sIx n d (some v) := by
      have q := HT.clip_eq v n d
      split
      · rename_i hv; rw [if_pos hv] at q; rw [q]; exact Int.toNat_natCast _
      · rename_i hv; rw [if_neg hv] at q; rw [q]; exact Int.toNat_natCast _
    rw [e] at h
    exact h
def rSlc (W : Wd) : V → Option Int → Option Int → Hp → VK → Prop := fun x lo hi H Q => ∃ Z S ρ σ x' Qs, R W Z S ρ σ H ∧ RepT W S H x x' ∧ Wg.slcV x' (partD lo) (partD hi) Qs ∧ Res W Z S ρ σ H Q Qs
theorem cutV_reps {vs : List V} {l : List D} (h : Reps W S H vs l) (lo hi : Option Int) : Reps W S H (cutV vs lo hi) ((l.drop (HT.sIx l.length 0 lo)).take (HT.sIx l.length l.length hi - HT.sIx l.length 0 lo)) := by
  unfold cutV
  rw [h.length]
  exact (h.drop _).take _
def rSlF (K : PySem.W.Frag) : V → Option Int → Option Int → Hp → VK → Prop := fun x lo hi H Q => ∃ a xs, x = .ref a ∧ SqT K H a xs ∧
  (HT.sIx xs.length 0 lo = 0 ∧ HT.sIx xs.length xs.length hi = xs.length → Q (.ref a) H) ∧ (∀ p ob, ob.dict = none → H p = none → Q (.ref p) (upd H p (.frz ob (.tup (cutV xs lo hi)))))
theorem sl_tupF : SlR X (rSlF X.K) := by
  intro pins s σ H x v vl vu lo hi sl Q I rx hs pl pu h
  obtain ⟨a, xs, rfl, hx, q1, q2⟩ := h
  cases rx
  obtain ⟨its, r, ht, hz⟩ := I.tuple hx
  have hlen : its.toArray.size = xs.length := by rw [List.size_toArray]; exact r.length.symm
  refine ⟨"tuple", _, PyProof.Rows.slot_tuple_getitem.lookup, ht.typeIs, ?_⟩
  by_cases hw : HT.sIx xs.length 0 lo = 0 ∧ HT.sIx xs.length xs.length hi = xs.length
  · exact getItem_tuple_whole ht hs pl pu (by rw [hlen]; exact hw) ⟨.ref a, H, I, rfl, q1 hw⟩
  · refine HT.getItem_tuple_cut ht hs pl pu (by rw [hlen]; exact hw) ?_ (by rw [hlen]; exact hz)
    rw [hlen]
    exact ⟨.ref s.heap.objs.size, _, laidT (xs := cutV xs lo hi) (t' := s.toks) I ((r.drop (HT.sIx xs.length 0 lo)).take (HT.sIx xs.length xs.length hi - HT.sIx xs.length 0 lo)) (Nat.le_trans (cutV_length xs lo hi) hz), rfl, q2 _ _ rfl (I.hok.fresh (Nat.le_refl _))⟩
theorem sl_slc (hK : W.K = X.K) : SlR X (rSlc W) := by
  intro pins s σ' H x v vl vu lo hi sl Q I rx hs pl pu h
  obtain ⟨Z, S, ρ, σ, x', Qs, r, hx, hq, k⟩ := h
  cases x' with
  | tup l =>
    obtain ⟨a, xs, rfl, h1, h2⟩ := Rep.tupv hx
    have hq : Wg.cutAt l.length 0 (partD lo) fun a => Wg.cutAt l.length l.length (partD hi) fun b => Qs (.sh (.tup ((l.drop a).take (b - a)))) := hq
    have q := cutAt_eq (cutAt_eq hq)
    refine sl_tupF pins s σ' H _ v vl vu lo hi sl Q I rx hs pl pu ⟨a, xs, rfl, hK ▸ h1, fun ⟨e1, e2⟩ => ?_, fun p ob hd hp => k.tup r hd hp (cutV_reps h2 lo hi) q⟩
    rw [h2.length] at e1 e2
    rw [e1, e2] at q
    simp only [List.drop_zero, Nat.sub_zero, List.take_length] at q
    exact k.val r hx q
  | lst l =>
    obtain ⟨a, xs, rfl, h1, h2⟩ := hx.lst
    have hq : Wg.cutAt l.length 0 (partD lo) fun a => Wg.cutAt l.length l.length (partD hi) fun b => Qs (.ol ((l.drop a).take (b - a))) := hq
    have q := cutAt_eq (cutAt_eq hq)
    exact sl_list pins s σ' H _ v vl vu lo hi sl Q I rx hs pl pu ⟨a, xs, rfl, SqL.of h1, fun p hp => k.lst r hp (cutV_reps h2 lo hi) q⟩
  | scr k' ns =>
    obtain ⟨a, rfl, h1⟩ := Rep.scrv hx
    have hq : Wg.cutAt ns.length 0 (partD lo) fun a => Wg.cutAt ns.length ns.length (partD hi) fun b => Qs (.ol (((ns.map D.int).drop a).take (b - a))) := hq
    have q := cutAt_eq (cutAt_eq hq)
    refine sl_list pins s σ' H _ v vl vu lo hi sl Q I rx hs pl pu ⟨a, _, rfl, hK ▸ h1, fun p hp => k.lst r hp (cutV_reps (Reps.ints ns) lo hi) ?_⟩
    rw [List.length_map]
    exact q
  | str l =>
    cases hx.str
    obtain ⟨hz, hq⟩ : l.length ≤ LB ∧ Wg.cutAt l.length 0 (partD lo) fun a => Wg.cutAt l.length l.length (partD hi) fun b => Qs (.sh (.str ((l.drop a).take (b - a)))) := hq
    have q := cutAt_eq (cutAt_eq hq)
    refine sl_str pins s σ' H _ v vl vu lo hi sl Q I rx hs pl pu ⟨_, rfl, by rw [lenTA]; have := LB_line; omega, ?_⟩
    have e : cutS ⟨l.toArray⟩ lo hi = ⟨((l.drop (HT.sIx l.length 0 lo)).take (HT.sIx l.length l.length hi - HT.sIx l.length 0 lo)).toArray⟩ := by
      unfold cutS
      rw [lenTA]
    rw [e]
    exact k.val r (.str _) q
  | _ => exact (show False from hq).elim
/-! ### methods that change nothing -/
theorem findIdx_toPs (x : D) : ∀ l : List D, ((toPs l).findIdx? fun z => PyData.eqv z (toP x)) = l.findIdx? fun z => D.eqv z x
  | [] => by rw [toPs]; rfl
  | y :: ys => by rw [toPs, List.findIdx?_cons, List.findIdx?_cons, findIdx_toPs x ys, eqv_toP]
theorem index_list {A : Around} {prog : Program} {w : World} {E : Value → Shared → Prop} {s : Shared} {l : Addr} {vs : List Value} {xs : List PyData} {x : Value} {d : PyData} {as bs : List Addr} {j : Nat} {Q : Value → Shared → Prop} (hl : s.heap.IsList l vs.toArray) (rs : ReadsAll s.heap vs xs as) (rx : Reads s.heap x d bs) (hxs : PyData.plainAll xs = true) (hd : d.plain = true)
    (hu : A.units + 1 + min (PyData.depthAll xs) d.depth < cLine) (hp : PySem.SeqAt.dataPlace xs d = some j) (hz : vs.length ≤ sizeLine) (h : Q (.int (j : Nat) s.toks) { s with toks := s.toks + 1 }) : wpAny (model prog w) A (call (.builtin "list.index") [.ref l, x]) Q E s := by
  obtain ⟨⟨cls, dd, data, sl⟩, ho, hc, n, hd'⟩ := id hl
  simp only at hc hd'
  subst hc hd'
  have rs' : ReadsAll s.heap vs.toArray.toList xs as := by simpa using rs
  obtain ⟨hj, hit, hno⟩ := PySem.SeqAt.hit_at rs' hxs hp
  rw [sizeLine_eq] at hz
  have hj2 : j < vs.length := by simpa using hj
  refine call_meets F.slot_list_index ⟨_, ho, rfl⟩ F.entry_list_index (F.args_list_index_2 _ _)
    (PySem.SeqAt.list_index2_found l vs.toArray n dd sl x (fun i => if hi : i < vs.toArray.size then PyData.eqv (PySem.SeqAt.readOf s.heap vs.toArray[i]) d else false) j hj (Nat.zero_le _) (by omega) ?_ ?_) ⟨ho, fun i hi => ?_, h⟩
  · simp only [hj, dif_pos]; exact hit
  · intro m hm _ hlt
    simp only [hm, dif_pos]; exact hno m hm hlt
  · simp only [hi, dif_pos]
    exact PySem.SeqAt.items_plain rs' rx hxs hd hu _ (Array.getElem_mem hi)
theorem index_tuple {A : Around} {prog : Program} {w : World} {E : Value → Shared → Prop} {s : Shared} {l : Addr} {vs : List Value} {xs : List PyData} {x : Value} {d : PyData} {as bs : List Addr} {j : Nat} {Q : Value → Shared → Prop} (hl : s.heap.IsTuple l vs.toArray) (rs : ReadsAll s.heap vs xs as) (rx : Reads s.heap x d bs) (hxs : PyData.plainAll xs = true) (hd : d.plain = true)
    (hu : A.units + 1 + min (PyData.depthAll xs) d.depth < cLine) (hp : PySem.SeqAt.dataPlace xs d = some j) (h : Q (.int (j : Nat) s.toks) { s with toks := s.toks + 1 }) : wpAny (model prog w) A (call (.builtin "tuple.index") [.ref l, x]) Q E s := by
  obtain ⟨⟨cls, dd, data, sl⟩, ho, hc, n, hd'⟩ := id hl
  simp only at hc hd'
  subst hc hd'
  have rs' : ReadsAll s.heap vs.toArray.toList xs as := by simpa using rs
  obtain ⟨hj, hit, hno⟩ := PySem.SeqAt.hit_at rs' hxs hp
  refine call_meets F.slot_tuple_index ⟨_, ho, rfl⟩ F.entry_tuple_index (F.args_tuple_index_2 _ _)
    (PySem.SeqAt.tuple_index2_found l vs.toArray n dd sl x (fun i => if hi : i < vs.toArray.size then PyData.eqv (PySem.SeqAt.readOf s.heap vs.toArray[i]) d else false) j hj (Nat.zero_le _) hj ?_ ?_) ⟨ho, fun i hi => ?_, h⟩
  · simp only [hj, dif_pos]; exact hit
  · intro m hm _ hlt
    simp only [hm, dif_pos]; exact hno m hm hlt
  · simp only [hi, dif_pos]
    exact PySem.SeqAt.items_plain rs' rx hxs hd hu _ (Array.getElem_mem hi)
def rMth (W : Wd) (m : Mth) : V → List V → Hp → VK → Prop := fun x vs H Q => ∃ Z S ρ σ x' ds Qs, R W Z S ρ σ H ∧ RepT W S H x x' ∧ RepTs W S H vs ds ∧ Wg.mthV m x' ds Qs ∧ Res W Z S ρ σ H Q Qs
/-- of a list -/
def rMthL (W : Wd) (m : Mth) : V → List V → Hp → VK → Prop := fun x vs H Q => ∃ Z S ρ σ l ds Qs, R W Z S ρ σ H ∧ RepT W S H x (.lst l) ∧ RepTs W S H vs ds ∧ Wg.mthV m (.lst l) ds Qs ∧ Res W Z S ρ σ H Q Qs
def rMthT (W : Wd) (m : Mth) : V → List V → Hp → VK → Prop := fun x vs H Q => ∃ Z S ρ σ l ds Qs, R W Z S ρ σ H ∧ RepT W S H x (.tup l) ∧ RepTs W S H vs ds ∧ Wg.mthV m (.tup l) ds Qs ∧ Res W Z S ρ σ H Q Qs
theorem mt_indexL (hK : W.K = X.K) (hu : X.A.units + 65 < cLine) : MtR X "list.index" (rMthL W .index) := by
  intro pins s σ' H x xs v us Q I rx rv h
  obtain ⟨Z, S, ρ, σ, l, ds, Qs, r, hx, hd, hm, k⟩ := h
  obtain ⟨y, rfl⟩ : ∃ y, ds = [y] := by
    rcases ds with _ | ⟨y, _ | ⟨z, t⟩⟩
    · exact (show False from hm).elim
    · exact ⟨y, rfl⟩
    · exact (show False from hm).elim
  obtain ⟨p1, p2, hm⟩ := hm
  replace hm : (match l.findIdx? (fun z => D.eqv z y) with | some k => Qs (.sh (.int k)) | none => False) := hm
  split at hm
  · rename_i j ej
    obtain ⟨a, ys, rfl, q1, q2⟩ := hx.lst
    cases rx
    obtain ⟨its, rv', hl, hz⟩ := I.list (SqL.of q1)
    cases hd with
    | cons h1 h2 =>
      cases h2
      cases rv with
      | cons r1 r2 =>
        cases r2
        obtain ⟨as, hr⟩ := Dp.readsAll I _ _ its (hK ▸ Reps.dp 9 l ys q2 p2) rv'
        obtain ⟨bs, hr2⟩ := reads_of hK I h1 p1 r1
        have d1 := (pl_toP 9 y p1).2
        have hlen := rv'.length
        refine index_list hl.isList hr hr2 (plains_of p2) (plain_of p1) (by omega) (j := j) ?_ (by omega) ⟨.int j, H, I.tok _, ⟨_, rfl⟩, k.val r (.int _) hm⟩
        unfold PySem.SeqAt.dataPlace
        rw [findIdx_toPs]; exact ej
  · exact hm.elim
theorem mt_indexT (hK : W.K = X.K) (hu : X.A.units + 65 < cLine) : MtR X "tuple.index" (rMthT W .index) := by
  intro pins s σ' H x xs v us Q I rx rv h
  obtain ⟨Z, S, ρ, σ, l, ds, Qs, r, hx, hd, hm, k⟩ := h
  obtain ⟨y, rfl⟩ : ∃ y, ds = [y] := by
    rcases ds with _ | ⟨y, _ | ⟨z, t⟩⟩
    · exact (show False from hm).elim
    · exact ⟨y, rfl⟩
    · exact (show False from hm).elim
  obtain ⟨p1, p2, hm⟩ := hm
  replace hm : (match l.findIdx? (fun z => D.eqv z y) with | some k => Qs (.sh (.int k)) | none => False) := hm
  split at hm
  · rename_i j ej
    obtain ⟨a, ys, rfl, q1, q2⟩ := Rep.tupv hx
    cases rx
    obtain ⟨its, rv', hl, hz⟩ := I.tuple (hK ▸ q1)
    cases hd with
    | cons h1 h2 =>
      cases h2
      cases rv with
      | cons r1 r2 =>
        cases r2
        obtain ⟨as, hr⟩ := Dp.readsAll I _ _ its (hK ▸ Reps.dp 9 l ys q2 p2) rv'
        obtain ⟨bs, hr2⟩ := reads_of hK I h1 p1 r1
        have d1 := (pl_toP 9 y p1).2
        have hlen := rv'.length
        refine index_tuple hl hr hr2 (plains_of p2) (plain_of p1) (by omega) (j := j) ?_ ⟨.int j, H, I.tok _, ⟨_, rfl⟩, k.val r (.int _) hm⟩
        unfold PySem.SeqAt.dataPlace
        rw [findIdx_toPs]; exact ej
  · exact hm.elim
theorem mt_countL (hK : W.K = X.K) (hu : X.A.units + 65 < cLine) : MtR X "list.count" (rMthL W .count) := by
  intro pins s σ' H x xs v us Q I rx rv h
  obtain ⟨Z, S, ρ, σ, l, ds, Qs, r, hx, hd, hm, k⟩ := h
  obtain ⟨y, rfl⟩ : ∃ y, ds = [y] := by
    rcases ds with _ | ⟨y, _ | ⟨z, t⟩⟩
    · exact (show False from hm).elim
    · exact ⟨y, rfl⟩
    · exact (show False from hm).elim
  obtain ⟨p1, p2, hm⟩ := hm
  obtain ⟨a, ys, rfl, q1, q2⟩ := hx.lst
  cases rx
  obtain ⟨its, rv', hl, hz⟩ := I.list (SqL.of q1)
  cases hd with
  | cons h1 h2 =>
    cases h2
    cases rv with
    | cons r1 r2 =>
      cases r2
      obtain ⟨as, hr⟩ := Dp.readsAll I _ _ its (hK ▸ Reps.dp 9 l ys q2 p2) rv'
      obtain ⟨bs, hr2⟩ := reads_of hK I h1 p1 r1
      have d1 := (pl_toP 9 y p1).2
      exact PySem.SeqAt.count_list_data hl.isList (by simpa using hr) hr2 (plains_of p2) (plain_of p1) (by omega) (by rw [countP_toPs]; exact ⟨.int _, H, I.tok _, ⟨_, rfl⟩, k.val r (.int _) hm⟩)
theorem mt_countT (hK : W.K = X.K) (hu : X.A.units + 65 < cLine) : MtR X "tuple.count" (rMthT W .count) := by
  intro pins s σ' H x xs v us Q I rx rv h
  obtain ⟨Z, S, ρ, σ, l, ds, Qs, r, hx, hd, hm, k⟩ := h
  obtain ⟨y, rfl⟩ : ∃ y, ds = [y] := by
    rcases ds with _ | ⟨y, _ | ⟨z, t⟩⟩
    · exact (show False from hm).elim
    · exact ⟨y, rfl⟩
    · exact (show False from hm).elim
  obtain ⟨p1, p2, hm⟩ := hm
  obtain ⟨a, ys, rfl, q1, q2⟩ := Rep.tupv hx
  cases rx
  obtain ⟨its, rv', hl, hz⟩ := I.tuple (hK ▸ q1)
  cases hd with
  | cons h1 h2 =>
    cases h2
    cases rv with
    | cons r1 r2 =>
      cases r2
      obtain ⟨as, hr⟩ := Dp.readsAll I _ _ its (hK ▸ Reps.dp 9 l ys q2 p2) rv'
      obtain ⟨bs, hr2⟩ := reads_of hK I h1 p1 r1
      have d1 := (pl_toP 9 y p1).2
      exact PySem.SeqAt.count_tuple_data hl (by simpa using hr) hr2 (plains_of p2) (plain_of p1) (by omega) (by rw [countP_toPs]; exact ⟨.int _, H, I.tok _, ⟨_, rfl⟩, k.val r (.int _) hm⟩)
end
end WgS
set_option Elab.async false
set_option linter.all false
set_option maxRecDepth 100000
set_option maxHeartbeats 1000000
/-! WgS: expressions. -/
namespace WgS
open PySem PySem.Spec PyProof.Rows L2
open Wg (D Slot Opd Ex Exs Tg Tgs Kvs Sts BOp COp Blt Mth LB)
section
variable {X : Cx}
theorem PE.imp {e : Expr} {t t' : TE} (h : PE X e t) (i : ∀ σ H Q, t' σ H Q → t σ H Q) : PE X e t' := ⟨fun pins s σ H Q I q => h.run pins s σ H Q I (i σ H Q q)⟩
theorem PT.imp {e : Expr} {t t' : TT} (h : PT X e t) (i : ∀ σ H Q, t' σ H Q → t σ H Q) : PT X e t' := ⟨fun pins s σ H Q I q => h.run pins s σ H Q I (i σ H Q q)⟩
theorem PA.imp {e : List Expr} {t t' : TA} (h : PA X e t) (i : ∀ σ H Q, t' σ H Q → t σ H Q) : PA X e t' := ⟨fun pos pins s σ H Q I q => h.run pos pins s σ H Q I (i σ H Q q)⟩
theorem PTs.imp {e : List Expr} {t t' : TT} (h : PTs X e t) (i : ∀ σ H Q, t' σ H Q → t σ H Q) : PTs X e t' := ⟨fun pins s σ H Q I q => h.run pins s σ H Q I (i σ H Q q)⟩
theorem PO.imp {e : Option Expr} {t t' : TO} (h : PO X e t) (i : ∀ σ H Q, t' σ H Q → t σ H Q) : PO X e t' := ⟨fun pins s σ H Q I q => h.run pins s σ H Q I (i σ H Q q)⟩
theorem PG.imp {e : Expr} {t t' : TG} (h : PG X e t) (i : ∀ v σ H Q, t' v σ H Q → t v σ H Q) : PG X e t' := ⟨fun pins s σ H v u Q I r q => h.run pins s σ H v u Q I r (i v σ H Q q)⟩
theorem PGs.imp {e : List Expr} {t t' : TGs} (h : PGs X e t) (i : ∀ v σ H Q, t' v σ H Q → t v σ H Q) : PGs X e t' := ⟨fun pins s σ H vs us Q I r q => h.run pins s σ H vs us Q I r (i vs σ H Q q)⟩
theorem PS.imp {e : Stmt} {t t' : TS} (h : PS X e t) (i : ∀ D σ H, t' D σ H → t D σ H) : PS X e t' := ⟨fun pins s σ H D I q => h.run pins s σ H D I (i D σ H q)⟩
theorem PSs.imp {e : List Stmt} {t t' : TS} (h : PSs X e t) (i : ∀ D σ H, t' D σ H → t D σ H) : PSs X e t' := ⟨fun pins s σ H D I q => h.run pins s σ H D I (i D σ H q)⟩
theorem PI.imp {tg e : Expr} {t t' : TI} (h : PI X tg e t) (i : ∀ σ H Q, t' σ H Q → t σ H Q) : PI X tg e t' := ⟨fun pins s σ H Q I q => h.run pins s σ H Q I (i σ H Q q)⟩
end
section
variable {W : Wd} {Z S S' : AS} {ρ ρ' : Wg.Env} {σ : L2.St} {H H' : Hp} {v : V}
theorem onB_inv {s : Slot} {K : Bool → Prop} (h : Wg.onB s K) : ∃ b, s = .sh (.bl b) ∧ K b := by
  unfold Wg.onB at h
  split at h
  · exact ⟨_, rfl, h⟩
  · exact h.elim
theorem RepS.eqBl {b : Bool} (h : RepS W Z S ρ σ H v (.sh (.bl b))) : v = .bl b := by
  have h' : Rep W S H v (.bl b) := h
  cases h'; rfl
theorem RepS.eqInt {b : Int} (h : RepS W Z S ρ σ H v (.sh (.int b))) : v = .int b := by
  have h' : Rep W S H v (.int b) := h
  cases h'; rfl
theorem R.live {i : Nat} (r : R W Z S ρ σ H) (h : Wg.live ρ i) : ∃ v, σ[i]? = some (some v) := by
  unfold Wg.live at h
  split at h
  · exact h.elim
  · exact h.elim
  · rename_i x n1 n2
    cases e : ρ[i]? with
    | none => exact (n2 e).elim
    | some s =>
      cases s with
      | un => exact (n1 e).elim
      | sh d => obtain ⟨v, h1, _⟩ := r.sh i d e; exact ⟨v, h1⟩
      | ol l => obtain ⟨a, xs, h1, _⟩ := r.ol i l e; exact ⟨_, h1⟩
      | od l => obtain ⟨a, xs, h1, _⟩ := r.od i l e; exact ⟨_, h1⟩
/-- operands -/
inductive RepOs (W : Wd) (S : AS) (σ : L2.St) (H : Hp) : List V → List Opd → Prop
  | nil : RepOs W S σ H [] []
  | cons {v : V} {vs : List V} {o : Opd} {os : List Opd} : RepO W S σ H v o → RepOs W S σ H vs os → RepOs W S σ H (v :: vs) (o :: os)
theorem RepOs.get : ∀ {vs : List V} {os : List Opd} {K : List D → Prop}, R W Z S ρ σ H → RepOs W S σ H vs os → Wg.gets ρ os K → ∃ ds, K ds ∧ RepTs W S H vs ds
  | _, _, K, _, .nil, g => ⟨[], g, .nil⟩
  | _, _, K, r, .cons h t, g => by
    unfold Wg.gets at g
    obtain ⟨d, g1, rd⟩ := RepO.get r h g
    obtain ⟨ds, g2, rs⟩ := RepOs.get (K := fun ds => K (d :: ds)) r t g1
    exact ⟨d :: ds, g2, .cons rd rs⟩
theorem RepOs.ext : ∀ {vs : List V} {os : List Opd}, Ext Z S H S' H' → RepOs W S σ H vs os → RepOs W S' σ H' vs os
  | _, _, _, .nil => .nil
  | _, _, k, .cons h t => .cons (RepO.ext k h) (RepOs.ext k t)
end
/-! ### readings -/
/-- an expression -/
def tX (W : Wd) (Φ : Wg.Ctx) (e : Ex) : TE := fun σ H Q => ∃ Z S ρ Qs, R W Z S ρ σ H ∧ Wg.wX Φ e ρ Qs ∧
  ∀ v H' S' ρ' s, Ext Z S H S' H' → R W Z S' ρ' σ H' → RepS W Z S' ρ' σ H' v s → Qs s ρ' → Q v H'
/-- a test -/
def tBl (W : Wd) (Φ : Wg.Ctx) (e : Ex) : TT := fun σ H Q => ∃ Z S ρ, ∃ Qb : Bool → Wg.Env → Prop, R W Z S ρ σ H ∧ Wg.wX Φ e ρ (fun s ρ1 => Wg.onB s fun b => Qb b ρ1) ∧
  ∀ b H' S' ρ', Ext Z S H S' H' → R W Z S' ρ' σ H' → Qb b ρ' → Q b H'
/-- an operand -/
def tO (W : Wd) (Φ : Wg.Ctx) (e : Ex) : TE := fun σ H Q => ∃ Z S ρ Qo, R W Z S ρ σ H ∧ Wg.opd e (Wg.wX Φ e ρ) ρ Qo ∧
  ∀ v H' S' ρ' o, Ext Z S H S' H' → R W Z S' ρ' σ H' → RepO W S' σ H' v o → Qo o ρ' → Q v H'
/-- a slice's part -/
def tPrt (W : Wd) (Φ : Wg.Ctx) (e : Ex) : TO := fun σ H Q => ∃ Z S ρ Qo, R W Z S ρ σ H ∧ Wg.prt e (Wg.wX Φ e ρ) ρ Qo ∧
  ∀ i H' S' ρ', Ext Z S H S' H' → R W Z S' ρ' σ H' → Qo i ρ' → Q i H'
/-- operands, values, tests -/
def tOs (W : Wd) (Φ : Wg.Ctx) (es : Exs) : TA := fun σ H Q => ∃ Z S ρ Qo, R W Z S ρ σ H ∧ Wg.wOs Φ es ρ Qo ∧
  ∀ vs H' S' ρ' os, Ext Z S H S' H' → R W Z S' ρ' σ H' → RepOs W S' σ H' vs os → vs.length = es.len → Qo os ρ' → Q vs H'
def tVs (W : Wd) (Φ : Wg.Ctx) (es : Exs) : TA := fun σ H Q => ∃ Z S ρ Qo, R W Z S ρ σ H ∧ Wg.wVs Φ es ρ Qo ∧
  ∀ vs H' S' ρ' ds, Ext Z S H S' H' → R W Z S' ρ' σ H' → Reps W S' H' vs ds → vs.length = es.len → Qo ds ρ' → Q vs H'
def tCs (W : Wd) (Φ : Wg.Ctx) (es : Exs) : TT := fun σ H Q => ∃ Z S ρ, ∃ Qb : Bool → Wg.Env → Prop, R W Z S ρ σ H ∧ Wg.wCs Φ es ρ Qb ∧
  ∀ b H' S' ρ', Ext Z S H S' H' → R W Z S' ρ' σ H' → Qb b ρ' → Q b H'
section
variable {X : Cx} {W : Wd} {Φ : Wg.Ctx} {ex l r m : Expr} {pos : Pos} {a b c : Ex}
theorem snd_O {e : Ex} (h : PE X ex (tX W Φ e)) (hv : ∀ i, e = .var i → PE X ex (tVar i)) : PE X ex (tO W Φ e) := by
  have go : (∀ ρ Qo, Wg.opd e (Wg.wX Φ e ρ) ρ Qo → Wg.wX Φ e ρ fun s ρ' => Qo (.v s.val) ρ') → PE X ex (tO W Φ e) := fun f =>
    PE.imp h fun σ H Q ⟨Z, S, ρ, Qo, r, hw, k⟩ => ⟨Z, S, ρ, _, r, f ρ Qo hw, fun v H' S' ρ' s e1 r1 rs q => by
      obtain ⟨S2, e2, r2, rp⟩ := fin_val r1 rs
      exact k v H' S2 ρ' (.v s.val) (e1.trans e2) r2 rp q⟩
  cases e with
  | var i =>
    refine PE.imp (hv i rfl) fun σ H Q ⟨Z, S, ρ, Qo, r, hw, k⟩ => ?_
    obtain ⟨hl, hw⟩ := (show Wg.live ρ i ∧ Qo (.r i) ρ from hw)
    obtain ⟨v, hv⟩ := r.live hl
    exact ⟨v, hv, k v H S ρ (.r i) .refl r hv hw⟩
  | _ => exact go fun ρ Qo hw => hw
theorem snd_var {i : Nat} (h : PE X ex (tVar i)) : PE X ex (tX W Φ (.var i)) := by
  refine PE.imp h fun σ H Q ⟨Z, S, ρ, Qs, r, hw, k⟩ => ?_
  have hw : Wg.varX ρ i Qs := hw
  unfold Wg.varX at hw
  split at hw
  · rename_i d e
    obtain ⟨v, h1, h2⟩ := r.sh i d e
    exact ⟨v, h1, k v H S ρ (.sh d) .refl r h2 hw⟩
  · rename_i l e
    obtain ⟨p, h1, h2, h3, h4⟩ := r.freeze e
    exact ⟨_, h1, k _ H _ _ (.sh (.lst l)) h2 h3 h4 hw⟩
  · rename_i l e
    obtain ⟨p, h1, h2, h3, h4⟩ := r.freezeD e
    exact ⟨_, h1, k _ H _ _ (.sh (.dct l)) h2 h3 h4 hw⟩
  · exact hw.elim
theorem snd_lit {d : D} {v : V} (h : PE X ex (tC v)) (q : ∀ S H, Rep W S H v d) : PE X ex (tX W Φ (.lit d)) :=
  PE.imp h fun σ H Q ⟨Z, S, ρ, Qs, r, hw, k⟩ => k v H S ρ (.sh d) .refl r (q S H) hw
theorem snd_glb {g : Nat} {d : D} {v : V} (h : PE X ex (tC v)) (hg : Φ.G g = some d) (q : ∀ S H, Rep W S H v d) : PE X ex (tX W Φ (.glb g)) :=
  PE.imp h fun σ H Q ⟨Z, S, ρ, Qs, r, hw, k⟩ => by
    unfold Wg.wX at hw
    rw [hg] at hw
    exact k v H S ρ (.sh d) .refl r (q S H) hw
theorem snd_bin (hK : W.K = X.K) {o : BOp} (ha : PE X l (tO W Φ a)) (hb : PE X r (tO W Φ b)) : PE X (.BinOp l (opOf o) r pos) (tX W Φ (.bin o a b)) := by
  refine PE.imp (pe_op (op_bin hK o) ha hb) fun σ H Q ⟨Z, S, ρ, Qs, r, hw, k⟩ => ?_
  unfold Wg.wX at hw
  refine ⟨Z, S, ρ, _, r, hw, fun x H1 S1 ρ1 ox e1 r1 rx q1 => ⟨Z, S1, ρ1, _, r1, q1, fun y H2 S2 ρ2 oy e2 r2 ry q2 => ?_⟩⟩
  obtain ⟨x', q3, rx'⟩ := RepO.get r2 (RepO.ext e2 rx) q2
  obtain ⟨y', q4, ry'⟩ := RepO.get r2 ry q3
  exact ⟨Z, S2, ρ2, σ, x', y', _, r2, rx', ry', q4, fun v H' S' s e3 r3 rs q => k v H' S' ρ2 s ((e1.trans e2).trans e3) r3 rs q⟩
theorem snd_neg (ha : PE X l (tX W Φ a)) : PE X (.UnaryOp .USub l pos) (tX W Φ (.neg a)) := by
  refine PE.imp (pe_un un_neg ha) fun σ H Q ⟨Z, S, ρ, Qs, r, hw, k⟩ => ?_
  unfold Wg.wX at hw
  refine ⟨Z, S, ρ, _, r, hw, fun x H1 S1 ρ1 s e1 r1 rx q1 => ?_⟩
  split at q1
  · rename_i i
    exact ⟨i, rx.eqInt, k _ H1 S1 ρ1 (.sh (.int (-i))) e1 r1 (Rep.int _) q1⟩
  · exact q1.elim
theorem snd_not (ha : PE X l (tX W Φ a)) : PE X (.UnaryOp .Not l pos) (tX W Φ (.not a)) := by
  refine PE.imp (pe_not ha) fun σ H Q ⟨Z, S, ρ, Qs, r, hw, k⟩ => ?_
  unfold Wg.wX at hw
  refine ⟨Z, S, ρ, _, r, hw, fun x H1 S1 ρ1 s e1 r1 rx q1 => ?_⟩
  obtain ⟨b, rfl, q1⟩ := onB_inv q1
  exact ⟨b, rx.eqBl, k _ H1 S1 ρ1 (.sh (.bl (!b))) e1 r1 (Rep.bl _) q1⟩
theorem snd_notT (ha : PT X l (tBl W Φ a)) : PT X (.UnaryOp .Not l pos) (tBl W Φ (.not a)) := by
  refine PT.imp (pt_not ha) fun σ H Q ⟨Z, S, ρ, Qs, r, hw, k⟩ => ?_
  unfold Wg.wX at hw
  exact ⟨Z, S, ρ, fun b ρ1 => Qs (!b) ρ1, r, hw, fun b H1 S1 ρ1 e1 r1 q1 => k _ H1 S1 ρ1 e1 r1 q1⟩
theorem tTest_of {e : Ex} {t : TE} (i : ∀ σ H Q, tX W Φ e σ H Q → t σ H Q) : ∀ σ H Q, tBl W Φ e σ H Q → tTest t σ H Q := fun σ H Q ⟨Z, S, ρ, Qb, r, hw, k⟩ =>
  i σ H _ ⟨Z, S, ρ, _, r, hw, fun x H1 S1 ρ1 s e1 r1 rx q1 => by
    obtain ⟨b, rfl, q1⟩ := onB_inv q1
    exact ⟨b, rx.eqBl, k b H1 S1 ρ1 e1 r1 q1⟩⟩
theorem snd_val {e : Ex} (h : PE X ex (tX W Φ e)) (he : ∀ whole, isTrue ex X.env whole = (do let v ← whole; standAt ex.pos; holding [v] (truthy v))) : PT X ex (tBl W Φ e) :=
  PT.imp (pt_val h he) (tTest_of fun _ _ _ q => q)
theorem cmp_imp {o : COp} : ∀ σ H Q, tX W Φ (.cmp o a b) σ H Q → tOp (rCmp W o) (tO W Φ a) (tO W Φ b) σ H Q := fun σ H Q ⟨Z, S, ρ, Qs, r, hw, k⟩ => by
  unfold Wg.wX at hw
  refine ⟨Z, S, ρ, _, r, hw, fun x H1 S1 ρ1 ox e1 r1 rx q1 => ⟨Z, S1, ρ1, _, r1, q1, fun y H2 S2 ρ2 oy e2 r2 ry q2 => ?_⟩⟩
  obtain ⟨x', q3, rx'⟩ := RepO.get r2 (RepO.ext e2 rx) q2
  obtain ⟨y', q4, ry'⟩ := RepO.get r2 ry q3
  exact ⟨S2, x', y', _, rx', ry', q4, fun b q => k (.bl b) H2 S2 ρ2 (.sh (.bl b)) (e1.trans e2) r2 (Rep.bl b) q⟩
theorem behind_pl {op : CmpOp} {e : Expr} (h : plB e = true) : behindInMarks op e = false := by
  cases e <;> first | rfl | cases h
theorem snd_cmp (hK : W.K = X.K) (hu : X.A.units + 65 < cLine) {o : COp} (ha : PE X l (tO W Φ a)) (hb : PE X r (tO W Φ b)) (hp : plB r = true) :
    PE X (.Compare l [copOf o] [r] pos) (tX W Φ (.cmp o a b)) ∧ PT X (.Compare l [copOf o] [r] pos) (tBl W Φ (.cmp o a b)) :=
  ⟨PE.imp (pe_cmpR (op_cmp hK hu o) ha hb (behind_pl hp)) cmp_imp, PT.imp (pt_cmpR (op_cmp hK hu o) ha hb (behind_pl hp)) (tTest_of cmp_imp)⟩
theorem chn_imp {o1 o2 : COp} : ∀ σ H Q, tX W Φ (.chn o1 o2 a b c) σ H Q → tChain (rCmp W o1) (rCmp W o2) (tO W Φ a) (tO W Φ b) (tO W Φ c) σ H Q := fun σ H Q ⟨Z, S, ρ, Qs, r, hw, k⟩ => by
  unfold Wg.wX at hw
  refine ⟨Z, S, ρ, _, r, hw, fun x H1 S1 ρ1 ox e1 r1 rx q1 => ⟨Z, S1, ρ1, _, r1, q1, fun y H2 S2 ρ2 oy e2 r2 ry q2 => ?_⟩⟩
  obtain ⟨x', q3, rx'⟩ := RepO.get r2 (RepO.ext e2 rx) q2
  obtain ⟨y', q4, ry'⟩ := RepO.get r2 ry q3
  refine ⟨S2, x', y', _, rx', ry', q4, fun b1 q5 => ⟨b1, rfl, ?_⟩⟩
  cases b1 with
  | false => exact k (.bl false) H2 S2 ρ2 (.sh (.bl false)) (e1.trans e2) r2 (Rep.bl _) q5
  | true =>
    rw [cond_true] at q5
    refine ⟨Z, S2, ρ2, _, r2, q5, fun z H3 S3 ρ3 oz e3 r3 rz q6 => ?_⟩
    obtain ⟨y', q7, ry'⟩ := RepO.get r3 (RepO.ext e3 ry) q6
    obtain ⟨z', q8, rz'⟩ := RepO.get r3 rz q7
    exact ⟨S3, y', z', _, ry', rz', q8, fun b q => k (.bl b) H3 S3 ρ3 (.sh (.bl b)) ((e1.trans e2).trans e3) r3 (Rep.bl b) q⟩
theorem snd_chn (hK : W.K = X.K) (hu : X.A.units + 65 < cLine) {o1 o2 : COp} (ha : PE X l (tO W Φ a)) (hb : PE X m (tO W Φ b)) (hc : PE X r (tO W Φ c)) (hp : plB r = true) :
    PE X (.Compare l [copOf o1, copOf o2] [m, r] pos) (tX W Φ (.chn o1 o2 a b c)) ∧ PT X (.Compare l [copOf o1, copOf o2] [m, r] pos) (tBl W Φ (.chn o1 o2 a b c)) :=
  ⟨PE.imp (pe_chain (op_cmp hK hu o1) (op_cmp hK hu o2) ha hb hc (behind_pl hp)) chn_imp, PT.imp (pt_chain (op_cmp hK hu o1) (op_cmp hK hu o2) ha hb hc (behind_pl hp)) (tTest_of chn_imp)⟩
/-! ### and, or, if -/
theorem and_imp : ∀ σ H Q, tX W Φ (.and a b) σ H Q → tAndV (tX W Φ a) (tX W Φ b) σ H Q := fun σ H Q ⟨Z, S, ρ, Qs, r, hw, k⟩ => by
  unfold Wg.wX at hw
  refine ⟨Z, S, ρ, _, r, hw, fun x H1 S1 ρ1 s e1 r1 rx q1 => ?_⟩
  obtain ⟨b1, rfl, q1⟩ := onB_inv q1
  refine ⟨b1, rx.eqBl, ?_⟩
  cases b1 with
  | false => exact k _ H1 S1 ρ1 (.sh (.bl false)) e1 r1 (Rep.bl _) q1
  | true =>
    refine ⟨Z, S1, ρ1, _, r1, q1, fun y H2 S2 ρ2 s2 e2 r2 ry q2 => ?_⟩
    obtain ⟨b2, rfl, q2⟩ := onB_inv q2
    exact k y H2 S2 ρ2 (.sh (.bl b2)) (e1.trans e2) r2 ry q2
theorem or_imp : ∀ σ H Q, tX W Φ (.or a b) σ H Q → tOrV (tX W Φ a) (tX W Φ b) σ H Q := fun σ H Q ⟨Z, S, ρ, Qs, r, hw, k⟩ => by
  unfold Wg.wX at hw
  refine ⟨Z, S, ρ, _, r, hw, fun x H1 S1 ρ1 s e1 r1 rx q1 => ?_⟩
  obtain ⟨b1, rfl, q1⟩ := onB_inv q1
  refine ⟨b1, rx.eqBl, ?_⟩
  cases b1 with
  | true => exact k _ H1 S1 ρ1 (.sh (.bl true)) e1 r1 (Rep.bl _) q1
  | false =>
    refine ⟨Z, S1, ρ1, _, r1, q1, fun y H2 S2 ρ2 s2 e2 r2 ry q2 => ?_⟩
    obtain ⟨b2, rfl, q2⟩ := onB_inv q2
    exact k y H2 S2 ρ2 (.sh (.bl b2)) (e1.trans e2) r2 ry q2
theorem andT_imp : ∀ σ H Q, tBl W Φ (.and a b) σ H Q → tAnd (tBl W Φ a) (tBl W Φ b) σ H Q := fun σ H Q ⟨Z, S, ρ, Qs, r, hw, k⟩ => by
  unfold Wg.wX at hw
  refine ⟨Z, S, ρ, _, r, hw, fun b1 H1 S1 ρ1 e1 r1 q1 => ?_⟩
  cases b1 with
  | false => exact k _ H1 S1 ρ1 e1 r1 q1
  | true =>
    refine ⟨Z, S1, ρ1, Qs, r1, ?_, fun b2 H2 S2 ρ2 e2 r2 q2 => k b2 H2 S2 ρ2 (e1.trans e2) r2 q2⟩
    exact q1
theorem orT_imp : ∀ σ H Q, tBl W Φ (.or a b) σ H Q → tOr (tBl W Φ a) (tBl W Φ b) σ H Q := fun σ H Q ⟨Z, S, ρ, Qs, r, hw, k⟩ => by
  unfold Wg.wX at hw
  refine ⟨Z, S, ρ, _, r, hw, fun b1 H1 S1 ρ1 e1 r1 q1 => ?_⟩
  cases b1 with
  | true => exact k _ H1 S1 ρ1 e1 r1 q1
  | false =>
    refine ⟨Z, S1, ρ1, Qs, r1, ?_, fun b2 H2 S2 ρ2 e2 r2 q2 => k b2 H2 S2 ρ2 (e1.trans e2) r2 q2⟩
    exact q1
theorem PT.pwB {op : BoolOp} {xs : List Expr} {t : TT} (h : PT X (.BoolOp op xs pos) t) : PW X (.BoolOp op xs pos) t := ⟨fun whole pins s σ H Q I q => by
  have e : isTrue (.BoolOp op xs pos) X.env whole = isTrue (.BoolOp op xs pos) X.env (eval (.BoolOp op xs pos) X.env) := rfl
  rw [e]
  exact h.run pins s σ H Q I q⟩
theorem snd_and1 (ha : PE X l (tX W Φ a)) (hta : PT X l (tBl W Φ a)) (hb : PE X r (tX W Φ b)) (htb : PT X r (tBl W Φ b)) :
    PE X (.BoolOp .And [l, r] pos) (tX W Φ (.and a b)) ∧ PT X (.BoolOp .And [l, r] pos) (tBl W Φ (.and a b)) :=
  ⟨PE.imp (pe_and ha (pe_one hb)) and_imp, PT.imp (pw_and hta (pw_and1 htb)).pt andT_imp⟩
theorem snd_or1 (ha : PE X l (tX W Φ a)) (hta : PT X l (tBl W Φ a)) (hb : PE X r (tX W Φ b)) (htb : PT X r (tBl W Φ b)) :
    PE X (.BoolOp .Or [l, r] pos) (tX W Φ (.or a b)) ∧ PT X (.BoolOp .Or [l, r] pos) (tBl W Φ (.or a b)) :=
  ⟨PE.imp (pe_or ha (pe_one hb)) or_imp, PT.imp (pw_or hta (pw_or1 htb)).pt orT_imp⟩
theorem snd_and2 {z : Expr} {xs : List Expr} (ha : PE X l (tX W Φ a)) (hta : PT X l (tBl W Φ a)) (hb : PE X (.BoolOp .And (r :: z :: xs) pos) (tX W Φ b)) (htb : PT X (.BoolOp .And (r :: z :: xs) pos) (tBl W Φ b)) :
    PE X (.BoolOp .And (l :: r :: z :: xs) pos) (tX W Φ (.and a b)) ∧ PT X (.BoolOp .And (l :: r :: z :: xs) pos) (tBl W Φ (.and a b)) :=
  ⟨PE.imp (pe_and ha hb) and_imp, PT.imp (pw_and hta (PT.pwB htb)).pt andT_imp⟩
theorem snd_or2 {z : Expr} {xs : List Expr} (ha : PE X l (tX W Φ a)) (hta : PT X l (tBl W Φ a)) (hb : PE X (.BoolOp .Or (r :: z :: xs) pos) (tX W Φ b)) (htb : PT X (.BoolOp .Or (r :: z :: xs) pos) (tBl W Φ b)) :
    PE X (.BoolOp .Or (l :: r :: z :: xs) pos) (tX W Φ (.or a b)) ∧ PT X (.BoolOp .Or (l :: r :: z :: xs) pos) (tBl W Φ (.or a b)) :=
  ⟨PE.imp (pe_or ha hb) or_imp, PT.imp (pw_or hta (PT.pwB htb)).pt orT_imp⟩
theorem pt_ifExp {c a b : Expr} {tc ta tb : TT} (hc : PT X c tc) (ha : PT X a ta) (hb : PT X b tb) : PT X (.IfExp c a b pos) (fun σ H Q => tc σ H fun k H1 => if k = true then ta σ H1 Q else tb σ H1 Q) := by
  refine ⟨fun pins s σ H Q I h => isTrue_IfExp (thn (hc.run pins s σ H _ I h) fun k s1 ⟨H1, I1, q1⟩ => ?_)⟩
  cases k with
  | true => exact ha.run pins s1 σ H1 Q I1 q1
  | false => exact hb.run pins s1 σ H1 Q I1 q1
theorem snd_ife (hc : PT X m (tBl W Φ c)) (ha : PE X l (tX W Φ a)) (hta : PT X l (tBl W Φ a)) (hb : PE X r (tX W Φ b)) (htb : PT X r (tBl W Φ b)) :
    PE X (.IfExp m l r pos) (tX W Φ (.ife c a b)) ∧ PT X (.IfExp m l r pos) (tBl W Φ (.ife c a b)) := by
  refine ⟨PE.imp (pe_ifExp hc ha hb) fun σ H Q ⟨Z, S, ρ, Qs, r, hw, k⟩ => ?_, PT.imp (pt_ifExp hc hta htb) fun σ H Q ⟨Z, S, ρ, Qs, r, hw, k⟩ => ?_⟩
  · unfold Wg.wX at hw
    refine ⟨Z, S, ρ, _, r, hw, fun t H1 S1 ρ1 e1 r1 q1 => ?_⟩
    cases t with
    | true => exact ⟨Z, S1, ρ1, _, r1, q1, fun v H2 S2 ρ2 s e2 r2 rs q => k v H2 S2 ρ2 s (e1.trans e2) r2 rs q⟩
    | false => exact ⟨Z, S1, ρ1, _, r1, q1, fun v H2 S2 ρ2 s e2 r2 rs q => k v H2 S2 ρ2 s (e1.trans e2) r2 rs q⟩
  · unfold Wg.wX at hw
    refine ⟨Z, S, ρ, _, r, hw, fun t H1 S1 ρ1 e1 r1 q1 => ?_⟩
    cases t with
    | true => exact ⟨Z, S1, ρ1, Qs, r1, q1, fun v H2 S2 ρ2 e2 r2 q => k v H2 S2 ρ2 (e1.trans e2) r2 q⟩
    | false => exact ⟨Z, S1, ρ1, Qs, r1, q1, fun v H2 S2 ρ2 e2 r2 q => k v H2 S2 ρ2 (e1.trans e2) r2 q⟩
/-! ### lists of expressions -/
variable {es : Exs} {xs : List Expr}
theorem star_pl {e : Expr} {es : List Expr} {env : PySem.Env} (h : plB e = true) : starEach (e :: es) env = (false, eval e env) :: starEach es env := by
  cases e <;> first | rfl | cases h
theorem snd_Os0 : PA X [] (tOs W Φ .n) := PA.imp pa_nil fun σ H Q ⟨Z, S, ρ, Qs, r, hw, k⟩ => k [] H S ρ [] .refl r .nil rfl hw
theorem snd_Os1 (ha : PE X l (tO W Φ a)) (hs : PA X xs (tOs W Φ es)) (hp : plB l = true) : PA X (l :: xs) (tOs W Φ (.c a es)) := by
  refine PA.imp (pa_cons ha hs (star_pl hp)) fun σ H Q ⟨Z, S, ρ, Qs, r, hw, k⟩ => ?_
  unfold Wg.wOs at hw
  exact ⟨Z, S, ρ, _, r, hw, fun x H1 S1 ρ1 o e1 r1 rx q1 => ⟨Z, S1, ρ1, _, r1, q1, fun vs H2 S2 ρ2 os e2 r2 rs hl q2 =>
    k (x :: vs) H2 S2 ρ2 (o :: os) (e1.trans e2) r2 (.cons (RepO.ext e2 rx) rs) (by rw [List.length_cons, hl]; rfl) q2⟩⟩
theorem snd_Vs0 : PA X [] (tVs W Φ .n) := PA.imp pa_nil fun σ H Q ⟨Z, S, ρ, Qs, r, hw, k⟩ => k [] H S ρ [] .refl r .nil rfl hw
theorem snd_Vs1 (ha : PE X l (tX W Φ a)) (hs : PA X xs (tVs W Φ es)) (hp : plB l = true) : PA X (l :: xs) (tVs W Φ (.c a es)) := by
  refine PA.imp (pa_cons ha hs (star_pl hp)) fun σ H Q ⟨Z, S, ρ, Qs, r, hw, k⟩ => ?_
  unfold Wg.wVs at hw
  refine ⟨Z, S, ρ, _, r, hw, fun x H1 S1 ρ1 s e1 r1 rx q1 => ?_⟩
  obtain ⟨S1', e1', r1', rx'⟩ := fin_val r1 rx
  exact ⟨Z, S1', ρ1, _, r1', q1, fun vs H2 S2 ρ2 os e2 r2 rs hl q2 =>
    k (x :: vs) H2 S2 ρ2 (s.val :: os) ((e1.trans e1').trans e2) r2 (.cons (Rep.mono e2.s _ _ rx') rs) (by rw [List.length_cons, hl]; rfl) q2⟩
theorem snd_Cs0 : PTs X [] (tCs W Φ .n) := PTs.imp pts_nil fun σ H Q ⟨Z, S, ρ, Qs, r, hw, k⟩ => k true H S ρ .refl r hw
theorem snd_Cs1 (ha : PT X l (tBl W Φ a)) : PTs X [l] (tCs W Φ (.c a .n)) := PTs.imp (pts_one ha) fun σ H Q ⟨Z, S, ρ, Qs, r, hw, k⟩ => ⟨Z, S, ρ, Qs, r, hw, k⟩
/-- a tuple just written, its object known -/
theorem pe_tupF {x1} {es : List Expr} {t : TA} (h : PA X es t) : PE X (.Tuple es x1 pos) (fun σ H Q => t σ H fun xs H1 => xs.length ≤ sizeLine ∧ ∀ p ob, ob.dict = none → H1 p = none → Q (.ref p) (upd H1 p (.frz ob (.tup xs)))) := by
  refine ⟨fun pins s σ H Q I hq => ?_⟩
  refine wpAny_Tuple_spliced (thn (h.run pos pins s σ H _ I hq) fun us s1 ⟨xs, H1, I1, r, z, q⟩ => ⟨by rw [← r.length]; exact z, ?_⟩)
  have hf : H1 s1.heap.objs.size = none := I1.hok.fresh (Nat.le_refl _)
  exact ⟨.ref s1.heap.objs.size, _, laidT (t' := s1.toks) I1 r z, rfl, q _ _ rfl hf⟩
theorem snd_tup {x1} (hl : es.len ≤ 1000) (h : PA X xs (tVs W Φ es)) : PE X (.Tuple xs x1 pos) (tX W Φ (.tup es)) := by
  refine PE.imp (pe_tupF h) fun σ H Q ⟨Z, S, ρ, Qs, r, hw, k⟩ => ?_
  unfold Wg.wX at hw
  refine ⟨Z, S, ρ, _, r, hw, fun vs H1 S1 ρ1 ds e1 r1 rs hn q1 => ⟨by rw [hn, sizeLine_eq]; omega, fun p ob hd hp => ?_⟩⟩
  exact Res.tup (Q := Q) (Qs := fun s => Qs s ρ1) (fun v H' S' s e2 r2 rv q => k v H' S' ρ1 s (e1.trans e2) r2 rv q) r1 hd hp rs q1
theorem snd_lst (hl : es.len ≤ 1000) (h : PA X xs (tVs W Φ es)) : PE X (.List xs pos) (tX W Φ (.lst es)) := by
  refine PE.imp (pe_lst h) fun σ H Q ⟨Z, S, ρ, Qs, r, hw, k⟩ => ?_
  unfold Wg.wX at hw
  refine ⟨Z, S, ρ, _, r, hw, fun vs H1 S1 ρ1 ds e1 r1 rs hn q1 => ⟨by rw [hn, sizeLine_eq]; omega, fun p hp => ?_⟩⟩
  exact Res.lst (Q := Q) (Qs := fun s => Qs s ρ1) (fun v H' S' s e2 r2 rv q => k v H' S' ρ1 s (e1.trans e2) r2 rv q) r1 hp rs q1
/-! ### subscripts -/
theorem plainIx_pl {e : Expr} (h : plB e = true) : PlainIx e := by
  intro o i
  cases e <;> first | rfl | cases h
theorem snd_idx (hK : W.K = X.K) (hu : X.A.units + 65 < cLine) (ha : PE X l (tO W Φ a)) (hb : PE X r (tO W Φ b)) (hp : plB r = true) : PE X (.Subscript l r pos) (tX W Φ (.idx a b)) := by
  refine PE.imp (pe_ix (ix_idx hK hu) ha hb (plainIx_pl hp)) fun σ H Q ⟨Z, S, ρ, Qs, r, hw, k⟩ => ?_
  unfold Wg.wX at hw
  refine ⟨Z, S, ρ, _, r, hw, fun x H1 S1 ρ1 ox e1 r1 rx q1 => ⟨Z, S1, ρ1, _, r1, q1, fun y H2 S2 ρ2 oy e2 r2 ry q2 => ?_⟩⟩
  obtain ⟨x', q3, rx'⟩ := RepO.get r2 (RepO.ext e2 rx) q2
  obtain ⟨y', q4, ry'⟩ := RepO.get r2 ry q3
  exact ⟨S2, x', y', _, rx', ry', q4, fun v d rv q => k v H2 S2 ρ2 (.sh d) (e1.trans e2) r2 rv q⟩
theorem snd_prt0 : PO X none (tPrt W Φ .noPart) := PO.imp po_none fun σ H Q ⟨Z, S, ρ, Qs, r, hw, k⟩ => k none H S ρ .refl r hw
theorem snd_prt1 (hn : ∀ q : a = .noPart, False) (ha : PE X l (tX W Φ a)) : PO X (some l) (tPrt W Φ a) := by
  refine PO.imp (po_some ha) fun σ H Q ⟨Z, S, ρ, Qs, r, hw, k⟩ => ⟨Z, S, ρ, fun s ρ' => match s with | .sh (.int i) => Qs (some i) ρ' | _ => False, r, ?_, fun x H1 S1 ρ1 s e1 r1 rx q1 => ?_⟩
  · cases a <;> first | exact hw | exact (hn rfl).elim
  · dsimp only at q1
    split at q1
    · rename_i i
      exact ⟨i, rx.eqInt, k (some i) H1 S1 ρ1 e1 r1 q1⟩
    · exact q1.elim
theorem snd_slc (hK : W.K = X.K) {lo hi : Option Expr} {p2 : Pos} (ha : PE X l (tO W Φ a)) (hl : PO X lo (tPrt W Φ b)) (hh : PO X hi (tPrt W Φ c)) : PE X (.Subscript l (.Slice lo hi none p2) pos) (tX W Φ (.slc a b c)) := by
  refine PE.imp (pe_slice (sl_slc hK) ha hl hh) fun σ H Q ⟨Z, S, ρ, Qs, r, hw, k⟩ => ?_
  unfold Wg.wX at hw
  refine ⟨Z, S, ρ, _, r, hw, fun x H1 S1 ρ1 ox e1 r1 rx q1 => ⟨Z, S1, ρ1, _, r1, q1, fun y H2 S2 ρ2 e2 r2 q2 => ⟨Z, S2, ρ2, _, r2, q2, fun z H3 S3 ρ3 e3 r3 q3 => ?_⟩⟩⟩
  obtain ⟨x', q4, rx'⟩ := RepO.get r3 (RepO.ext (e2.trans e3) rx) q3
  exact ⟨Z, S3, ρ3, σ, x', _, r3, rx', q4, fun v H' S' s e4 r4 rs q => k v H' S' ρ3 s ((e1.trans e2).trans (e3.trans e4)) r4 rs q⟩
end
end WgS
set_option Elab.async false
set_option linter.all false
set_option maxRecDepth 100000
set_option maxHeartbeats 1000000
/-! WgS: calls. -/
namespace WgS
open PySem PySem.Spec PyProof.Rows L2
open Wg (D Slot Opd Ex Exs Tg Tgs Kvs Sts BOp COp Blt Mth LB)
/-- what a function of the table does -/
def SpF (W : Wd) (F : Nat → List D → (D → Prop) → Prop) (f : Nat) : Sp := fun vs H Q E => ∃ (S : AS) (ds : List D) (Qd : D → Prop), (∀ a, S a → H a ≠ none ∧ W.P ≠ some a) ∧ (∀ p, W.P = some p → S W.ps ∧ Pool0 W H p) ∧ Reps W S H vs ds ∧ F f ds Qd ∧
  ∀ v H' S' d, (∀ a, H a ≠ none → W.P ≠ some a → H' a = H a) → (∀ p, W.P = some p → Pool0 W H' p) → (∀ a, S' a → (S a ∨ H a = none) ∧ H' a ≠ none) → Rep W S' H' v d → Qd d → Q v H'
abbrev CX0 : CXT := fun _ _ _ _ _ _ => False
/-- names of built-ins that no def takes -/
structure FreeB (mg : Str → Option Value) : Prop where
  set : mg "set" = none
  isi : mg "isinstance" = none
  bool : mg "bool" = none
  str : mg "str" = none
structure Good (T : Tab) (W : Wd) (Φ : Wg.Ctx) (N : List Str) (X : Cx) : Prop where
  calm : X.calm = true
  hK : W.K = X.K
  hN : X.N = N
  nd : N.Nodup
  xe : X.xe = fun _ _ => False
  hu : X.A.units + 65 < cLine
  blt : ∀ b x, bltName b = some x → X.mg x = none
  rng : X.mg "range" = none
  zp : X.mg "zip" = none
  st : FreeB X.mg
  fn : ∀ f x, T.fn f = some x → ∃ a fd ps k, X.mg x = some (.ref a) ∧ PySem.W.keepIn X.K (.ref a) = true ∧ Binds X.K fd ps [] ∧ Room k X.A ∧ FnOk X.prog X.w X.K X.mg X.base CX0 k a fd ps (SpF W Φ.F f)
  kp : ∀ i, T.keep i = false → W.keep i = none
  fv : T.fv = true → ∀ f a, W.fn f = some a → f ≠ 1 → ∃ x, T.fn f = some x ∧ X.mg x = some (.ref a)
  con : ∀ g x, T.con g = some x → ∃ v u d, X.mg x = some u ∧ RelV v u ∧ Φ.G g = some d ∧ ∀ S H, Rep W S H v d
theorem Good.blk {T : Tab} {W : Wd} {Φ : Wg.Ctx} {N : List Str} {X : Cx} (g : Good T W Φ N X) (s : Shared) (H : Hp) (scope : Scope) (C : Addr) (cl : List (Str × Addr)) (fp : List Addr) : Good T W Φ N (X.blk s H scope (compEnvC scope cl C X.env) fp) :=
  ⟨g.calm, g.hK, g.hN, g.nd, rfl, g.hu, g.blt, g.rng, g.zp, g.st, g.fn, g.kp, g.fv, g.con⟩
section
variable {W : Wd} {Z S S' : AS} {ρ ρ' : Wg.Env} {σ : L2.St} {H H' : Hp} {v : V} {p : Addr}
/-- the addresses of the operands' own lists -/
def OwnA (ρ : Wg.Env) (σ : L2.St) (os : List Opd) : AS := fun a => ∃ i, Opd.r i ∈ os ∧ isOwn ρ[i]? ∧ σ[i]? = some (some (.ref a))
theorem RepO.getS {o : Opd} {K : D → Prop} (r : R W Z S ρ σ H) (h : RepO W S σ H v o) (hS : ∀ a, S a → S' a) (hO : ∀ a i, o = .r i → isOwn ρ[i]? → σ[i]? = some (some (.ref a)) → S' a) (g : o.get ρ K) : ∃ d, K d ∧ Rep W S' H v d := by
  have mono : ∀ d, Rep W S H v d → Rep W S' H v d := fun d q => Rep.mono (fun a ha => ⟨hS a ha, rfl⟩) d v q
  cases o with
  | v d => exact ⟨d, g, mono d h⟩
  | r i =>
    have h' : σ[i]? = some (some v) := h
    have g' : (match ρ[i]? with
      | some (.sh d) => K d
      | some (.ol l) => K (.lst l)
      | some (.od l) => K (.dct l)
      | _ => False) := g
    split at g'
    · rename_i d e
      obtain ⟨u, h1, h2⟩ := r.sh i d e
      rw [h'] at h1; cases h1
      exact ⟨d, g', mono d h2⟩
    · rename_i l e
      obtain ⟨a, xs, h1, h2, h3, h4⟩ := r.ol i l e
      rw [h'] at h1; cases h1
      exact ⟨.lst l, g', .lst (hO a i rfl (by rw [e]; trivial) h') h2 (Reps.mono (fun a ha => ⟨hS a ha, rfl⟩) _ _ h4)⟩
    · rename_i l e
      obtain ⟨a, xs, h1, h2, h3, h4⟩ := r.od i l e
      rw [h'] at h1; cases h1
      exact ⟨.dct l, g', .dct (hO a i rfl (by rw [e]; trivial) h') (.inl h2) (RepKs.mono (fun a ha => ⟨hS a ha, rfl⟩) h4)⟩
    · exact g'.elim
theorem RepOs.getS : ∀ {vs : List V} {os : List Opd} {K : List D → Prop}, R W Z S ρ σ H → RepOs W S σ H vs os → (∀ a, S a → S' a) → (∀ a, OwnA ρ σ os a → S' a) → Wg.gets ρ os K → ∃ ds, K ds ∧ Reps W S' H vs ds
  | _, _, K, _, .nil, _, _, g => ⟨[], g, .nil⟩
  | _, _, K, r, .cons (o := o) (os := os) h t, hS, hO, g => by
    unfold Wg.gets at g
    obtain ⟨d, g1, rd⟩ := RepO.getS r h hS (fun a i e h1 h2 => hO a ⟨i, by rw [e]; exact List.mem_cons_self, h1, h2⟩) g
    obtain ⟨ds, g2, rs⟩ := RepOs.getS (K := fun ds => K (d :: ds)) r t hS (fun a ⟨i, e, h1, h2⟩ => hO a ⟨i, List.mem_cons_of_mem _ e, h1, h2⟩) g1
    exact ⟨d :: ds, g2, .cons rd rs⟩
mutual
/-- a value made of tuples alone lies in tuples alone -/
theorem Rep.imm (k : ∀ a o u, S a → H a = some (.frz o u) → S' a) : ∀ (d : D) (v : V), d.imm = true → Rep W S H v d → Rep W S' H v d
  | .non, _, _, h => by cases h; exact .non
  | .bl _, _, _, h => by cases h; exact .bl _
  | .int _, _, _, h => by cases h; exact .int _
  | .str _, _, _, h => by cases h; exact .str _
  | .tup ds, _, i, h => by
    have i : D.imms ds = true := i
    cases h with
    | tup hs ha hd hr => exact .tup (k _ _ _ hs ha) ha hd (Reps.imm k ds _ i hr)
    | ktup hk hr => exact .ktup hk (Reps.imm k ds _ i hr)
  | .lst ds, _, i, _ => by cases (show false = true from i)
  | .dct _, _, i, _ => by cases (show false = true from i)
  | .fn _ _, _, _, h => by cases h with | fn e => exact .fn e
  | .pool, _, i, _ => by cases (show false = true from i)
  | .scr _ _, _, i, _ => by cases (show false = true from i)
theorem Reps.imm (k : ∀ a o u, S a → H a = some (.frz o u) → S' a) : ∀ (ds : List D) (vs : List V), D.imms ds = true → Reps W S H vs ds → Reps W S' H vs ds
  | [], _, _, h => by cases h; exact .nil
  | d :: ds, _, i, h => by
    have i : (D.imm d && D.imms ds) = true := i
    simp only [Bool.and_eq_true] at i
    cases h with
    | cons h1 h2 => exact .cons (Rep.imm k d _ i.1 h1) (Reps.imm k ds _ i.2 h2)
end
theorem freeze_noop {i : Nat} (h : ¬ isOwn ρ[i]?) : Wg.freeze ρ i = ρ := by
  unfold Wg.freeze
  split
  · rename_i l e; rw [e] at h; exact (h trivial).elim
  · rename_i l e; rw [e] at h; exact (h trivial).elim
  · rfl
/-- operands' lists are known elsewhere from now on -/
theorem R.freezes : ∀ (os : List Opd) {S : AS} {ρ : Wg.Env}, R W Z S ρ σ H → ∃ S2, Ext Z S H S2 H ∧ R W Z S2 (Wg.freezes ρ os) σ H ∧ ∀ a, OwnA ρ σ os a → S2 a
  | [], S, ρ, r => ⟨S, .refl, r, fun a ⟨i, h, _⟩ => nomatch h⟩
  | .v d :: os, S, ρ, r => by
    obtain ⟨S2, e, r2, h⟩ := R.freezes os r
    exact ⟨S2, e, r2, fun a ⟨i, h1, h2, h3⟩ => h a ⟨i, by simpa using h1, h2, h3⟩⟩
  | .r i :: os, S, ρ, r => by
    by_cases ho : isOwn ρ[i]?
    · unfold isOwn at ho
      split at ho
      · rename_i l el
        obtain ⟨a, h1, e1, r1, _⟩ := r.freeze el
        have ef : Wg.freeze ρ i = ρ.set i (.sh (.lst l)) := by unfold Wg.freeze; rw [el]
        obtain ⟨S2, e2, r2, h⟩ := R.freezes os r1
        refine ⟨S2, e1.trans e2, ?_, fun b ⟨j, hj, oj, sj⟩ => ?_⟩
        · unfold Wg.freezes
          rw [ef]
          exact r2
        · by_cases eij : j = i
          · subst eij
            rw [h1] at sj
            cases sj
            exact (e2.s _ (.inr rfl)).1
          · refine h b ⟨j, ?_, ?_, sj⟩
            · rcases List.mem_cons.mp hj with q | q
              · cases q; exact (eij rfl).elim
              · exact q
            · rw [List.getElem?_set_ne (Ne.symm eij)]; exact oj
      · rename_i l el
        obtain ⟨a, h1, e1, r1, _⟩ := r.freezeD el
        have ef : Wg.freeze ρ i = ρ.set i (.sh (.dct l)) := by unfold Wg.freeze; rw [el]
        obtain ⟨S2, e2, r2, h⟩ := R.freezes os r1
        refine ⟨S2, e1.trans e2, ?_, fun b ⟨j, hj, oj, sj⟩ => ?_⟩
        · unfold Wg.freezes
          rw [ef]
          exact r2
        · by_cases eij : j = i
          · subst eij
            rw [h1] at sj
            cases sj
            exact (e2.s _ (.inr rfl)).1
          · refine h b ⟨j, ?_, ?_, sj⟩
            · rcases List.mem_cons.mp hj with q | q
              · cases q; exact (eij rfl).elim
              · exact q
            · rw [List.getElem?_set_ne (Ne.symm eij)]; exact oj
      · exact ho.elim
    · obtain ⟨S2, e2, r2, h⟩ := R.freezes os r
      refine ⟨S2, e2, ?_, fun b ⟨j, hj, oj, sj⟩ => ?_⟩
      · unfold Wg.freezes
        rw [freeze_noop ho]
        exact r2
      · refine h b ⟨j, ?_, oj, sj⟩
        rcases List.mem_cons.mp hj with q | q
        · cases q; exact (ho oj).elim
        · exact q
/-- behind a call: new addresses n are known -/
theorem R.after {n : AS} (r : R W Z S ρ σ H) (hf : ∀ a, H a ≠ none → W.P ≠ some a → H' a = H a) (hp : ∀ p, W.P = some p → Pool0 W H' p) (hn : ∀ a, n a → H a = none ∧ H' a ≠ none) :
    Ext Z S H (fun a => S a ∨ n a) H' ∧ R W Z (fun a => S a ∨ n a) ρ σ H' := by
  have kS : ∀ a, S a → H' a = H a := fun a h => hf a (r.trk a (.inl h)) fun e => (r.pool a e).1 h
  have kZ : ∀ a, Z a → H' a = H a := fun a h => hf a (r.trk a (.inr h)) fun e => (r.pool a e).2.1 h
  have ks : ∀ a, S a → (S a ∨ n a) ∧ H' a = H a := fun a h => ⟨.inl h, kS a h⟩
  refine ⟨⟨ks, kZ⟩, r.len, r.keep, fun i d e => ?_, fun i l e => ?_, fun i l e => ?_, r.dis, fun a h => ?_, fun a h => ?_, fun p e => ?_⟩
  · obtain ⟨v, h1, h2⟩ := r.sh i d e
    exact ⟨v, h1, Rep.mono ks _ _ h2⟩
  · obtain ⟨a, xs, h1, h2, h3, h4⟩ := r.ol i l e
    have ta : H a ≠ none := by rw [h2]; simp
    refine ⟨a, xs, h1, (hf a ta h3.2.2).trans h2, ⟨fun q => ?_, h3.2⟩, Reps.mono ks _ _ h4⟩
    rcases q with q | q
    · exact h3.1 q
    · exact ta (hn a q).1
  · obtain ⟨a, xs, h1, h2, h3, h4⟩ := r.od i l e
    have ta : H a ≠ none := by rw [h2]; simp
    refine ⟨a, xs, h1, (hf a ta h3.2.2).trans h2, ⟨fun q => ?_, h3.2⟩, RepKs.mono ks h4⟩
    rcases q with q | q
    · exact h3.1 q
    · exact ta (hn a q).1
  · rcases h with (h | h) | h
    · rw [kS a h]; exact r.trk a (.inl h)
    · exact (hn a h).2
    · rw [kZ a h]; exact r.trk a (.inr h)
  · rcases h with h | h
    · exact r.dz a h
    · exact fun z => r.trk a (.inr z) (hn a h).1
  · obtain ⟨h1, h2, h3, h4⟩ := r.pool p e
    refine ⟨fun q => ?_, h2, .inl h3, hp p e⟩
    rcases q with q | q
    · exact h1 q
    · obtain ⟨ns, i, x, c, z, e1, _⟩ := h4
      rw [(hn p q).1] at e1; cases e1
end
section
variable {T : Tab} {X : Cx} {W : Wd} {Φ : Wg.Ctx} {N : List Str} {ex l r m : Expr} {pos np : Pos} {a b c : Ex} {es : Exs} {xs : List Expr} {x : Str}
theorem plAll_star {env : PySem.Env} : ∀ {xs : List Expr}, xs.all plB = true → ∀ pos, (backTo pos (starEach xs env)).all (fun x => !x.1) = true ∧ (backTo pos (starEach xs env)).any (·.1) = false
  | [], _, _ => ⟨rfl, rfl⟩
  | e :: es, h, pos => by
    simp only [List.all_cons, Bool.and_eq_true] at h
    rw [star_pl h.1]
    obtain ⟨h1, h2⟩ := plAll_star (env := env) h.2 pos
    constructor
    · show (!false && (backTo pos (starEach es env)).all (fun x => !x.1)) = true
      rw [h1]; rfl
    · show (false || (backTo pos (starEach es env)).any (·.1)) = false
      rw [h2]; rfl
/-- what a call reaches -/
theorem call_imp {f : Nat} : ∀ σ H Q, tX W Φ (.call f es) σ H Q → tCall (SpF W Φ.F f) [] (fun _ _ _ => False) (tOs W Φ es) σ H Q := fun σ H Q ⟨Z, S, ρ, Qs, r, hw, k⟩ => by
  unfold Wg.wX at hw
  refine ⟨Z, S, ρ, _, r, hw, fun vs H1 S1 ρ1 os e1 r1 rs _ q1 => ?_⟩
  show SpF W Φ.F f (vs ++ []) H1 Q _
  rw [List.append_nil]
  obtain ⟨ds, q2, rd⟩ := RepOs.getS (S' := fun a => S1 a ∨ OwnA ρ1 σ os a) r1 rs (fun a h => .inl h) (fun a h => .inr h) q1
  have ownTrk : ∀ a, OwnA ρ1 σ os a → H1 a ≠ none ∧ Own W Z S1 a := fun a ⟨i, _, h1, h2⟩ => r1.own_trk h1 h2
  have ownLst : ∀ a, OwnA ρ1 σ os a → ∀ o u, H1 a ≠ some (.frz o u) := fun a ⟨i, _, h1, h2⟩ o u z => by
    unfold isOwn at h1
    split at h1
    · rename_i l e
      obtain ⟨b, ys, g1, g2, _⟩ := r1.ol i l e
      rw [h2] at g1; cases g1
      rw [z] at g2; cases g2
    · rename_i l e
      obtain ⟨b, ys, g1, g2, _⟩ := r1.od i l e
      rw [h2] at g1; cases g1
      rw [z] at g2; cases g2
    · exact h1.elim
  refine ⟨fun a => S1 a ∨ OwnA ρ1 σ os a, ds, _, fun a h => ?_, fun p hp => ?_, rd, q2, fun v H' S' d hf hp hs rv q => ?_⟩
  · rcases h with h | h
    · exact ⟨r1.trk a (.inl h), fun e => (r1.pool a e).1 h⟩
    · exact ⟨(ownTrk a h).1, (ownTrk a h).2.2.2⟩
  · obtain ⟨_, _, h3, h4⟩ := r1.pool p hp
    exact ⟨.inl h3, h4⟩
  · have hn : ∀ a, (S' a ∧ H1 a = none) → H1 a = none ∧ H' a ≠ none := fun a h => ⟨h.2, (hs a h.1).2⟩
    unfold Wg.behind at q
    split at q
    · rename_i im
      obtain ⟨e2, r2⟩ := r1.after (n := fun a => S' a ∧ H1 a = none) hf hp hn
      refine k v H' _ ρ1 (.sh d) (e1.trans e2) r2 (Rep.imm (fun a o u ha hH => ?_) d v im rv) q
      rcases (hs a ha).1 with (h | h) | h
      · exact .inl h
      · have := hf a (ownTrk a h).1 (ownTrk a h).2.2.2
        exact (ownLst a h o u (this ▸ hH)).elim
      · exact .inr ⟨ha, h⟩
    · obtain ⟨S2, e2, r2, ho⟩ := R.freezes os r1
      obtain ⟨e3, r3⟩ := r2.after (n := fun a => S' a ∧ H1 a = none) hf hp hn
      refine k v H' _ _ (.sh d) (e1.trans (e2.trans e3)) r3 (Rep.mono (fun a ha => ⟨?_, rfl⟩) d v rv) q
      rcases (hs a ha).1 with (h | h) | h
      · exact .inl (e2.s a h).1
      · exact .inl (ho a h)
      · exact .inr ⟨ha, h⟩
theorem snd_call {f : Nat} (g : Good T W Φ N X) (hf : T.fn f = some x) (hg : Gl X x) (hd : (x == ("__debug__" : Str)) = false) (h : PA X xs (tOs W Φ es)) (hp : xs.all plB = true) (hx : xs = [] → es = .n) :
    PE X (.Call (.Name x np) xs [] pos) (tX W Φ (.call f es)) := by
  obtain ⟨a, fd, ps, k, hm, hk, hb, hr, F⟩ := g.fn f x hf
  have hpass : Passes CX0 X (fun _ _ _ => False) := fun _ _ _ _ _ _ _ h => h.elim
  cases xs with
  | nil =>
    have e0 := hx rfl
    subst e0
    refine PE.imp (pe_call0 F hr hg hm hk hb .nil hpass hd) fun σ H Q q => ?_
    obtain ⟨Z, S, ρ, Qs, r, hw, k⟩ := call_imp σ H Q q
    exact k [] H S ρ [] .refl r .nil rfl hw
  | cons e es' =>
    simp only [List.all_cons, Bool.and_eq_true] at hp
    exact PE.imp (pe_call F hr hg hm hk hb .nil hpass h hd (star_pl hp.1) (plAll_star hp.2 pos).2) call_imp
/-! ### built-in functions -/
theorem cr_of (g : Good T W Φ N X) : ∀ (b : Blt) (x : Str), bltName b = some x → (∃ id, bootBuiltins x = some (.builtin id) ∧ CallR X (.builtin id) (rBlt W b)) ∨ (∃ Ty, bootBuiltins x = some (.type Ty) ∧ CallR X (.type Ty) (rBlt W b)) := by
  intro b x h
  cases b <;> first | (cases h; done) | cases h
  · exact .inl ⟨"len", by kernel_rfl, cr_len g.hK⟩
  · exact .inr ⟨"tuple", by kernel_rfl, cr_tuple g.hK⟩
  · exact .inr ⟨"list", by kernel_rfl, cr_list g.hK g.calm⟩
  · exact .inl ⟨"sorted", by kernel_rfl, cr_sortedB g.hK g.hu⟩
  · exact .inl ⟨"min", by kernel_rfl, cr_minB g.hK g.calm g.hu⟩
  · exact .inl ⟨"max", by kernel_rfl, cr_maxB g.hK g.calm g.hu⟩
  · exact .inl ⟨"sum", by kernel_rfl, cr_sumB g.hK g.calm⟩
  · exact .inl ⟨"abs", by kernel_rfl, cr_abs⟩
  · exact .inr ⟨"int", by kernel_rfl, cr_int⟩
  · exact .inl ⟨"all", by kernel_rfl, cr_allB g.hK g.calm⟩
  · exact .inl ⟨"any", by kernel_rfl, cr_anyB g.hK g.calm⟩
theorem blt_imp {b : Blt} : ∀ σ H Q, tX W Φ (.blt b es) σ H Q → tCB (rBlt W b) (tOs W Φ es) σ H Q := fun σ H Q ⟨Z, S, ρ, Qs, r, hw, k⟩ => by
  unfold Wg.wX at hw
  refine ⟨Z, S, ρ, _, r, hw, fun vs H1 S1 ρ1 os e1 r1 rs _ q1 => ?_⟩
  obtain ⟨ds, q2, rd⟩ := RepOs.get r1 rs q1
  exact ⟨Z, S1, ρ1, σ, ds, _, r1, rd, q2, fun v H' S' s e2 r2 rv q => k v H' S' ρ1 s (e1.trans e2) r2 rv q⟩
theorem snd_blt {b : Blt} {e : Expr} (g : Good T W Φ N X) (hf : bltName b = some x) (hg : Gl X x) (hd : (x == ("__debug__" : Str)) = false) (hn : x ≠ "__name__") (h : PA X (e :: xs) (tOs W Φ es)) (hp : (e :: xs).all plB = true) :
    PE X (.Call (.Name x np) (e :: xs) [] pos) (tX W Φ (.blt b es)) := by
  simp only [List.all_cons, Bool.and_eq_true] at hp
  rcases cr_of g b x hf with ⟨id, hv, hc⟩ | ⟨id, hv, hc⟩
  · exact PE.imp (pe_callB hc hg (g.blt b x hf) hv h hn hd (star_pl hp.1) (plAll_star hp.2 pos).2) blt_imp
  · exact PE.imp (pe_callTy hc hg (g.blt b x hf) hv h hn hd (star_pl hp.1) (plAll_star hp.2 pos).2) blt_imp
/-! ### methods -/
theorem base_pl {e : Expr} {nm : Str} {env : PySem.Env} (h : notCall e = true) : attributeBase e nm env (eval e env) = eval e env := by
  cases e <;> first | rfl | cases h
theorem few_pl {env : PySem.Env} {cp : Pos} {e : Expr} (hp : (e :: xs).all plB = true) (hl : xs.length < 20) : ((backTo cp (starEach (e :: xs) env)).all (fun x => !x.1) && (backToKw cp (keywordEach [] env)).all (fun x => x.1.isSome)
      && decide ((e :: xs).length + ([] : List Keyword).length + (if ([] : List Keyword).isEmpty then 0 else 1) < 30)) = true := by
  rw [(plAll_star hp cp).1]
  have : (e :: xs).length + ([] : List Keyword).length + (if ([] : List Keyword).isEmpty then 0 else 1) < 30 := by
    show (xs.length + 1) + 0 + 0 < 30
    omega
  rw [decide_eq_true this]
  rfl
theorem RepT.kind1 {S : AS} {H : Hp} {v : V} {d : D} (h : Wg.kindD d = 1) (r : RepT W S H v d) : ∃ l, d = .lst l := by
  cases d <;> first | exact ⟨_, rfl⟩ | cases h
theorem kind1 {d : D} (h : Wg.kindD d = 1) : ∃ l, d = .lst l := by
  cases d <;> first | exact ⟨_, rfl⟩ | cases h
theorem kind2 {d : D} (h : Wg.kindD d = 2) : ∃ l, d = .tup l := by
  cases d <;> first | exact ⟨_, rfl⟩ | cases h
theorem kind12 {d : D} (h : Wg.kindD d ≠ 0) : Wg.kindD d = 1 ∨ Wg.kindD d = 2 := by
  cases d <;> first | exact .inl rfl | exact .inr rfl | exact (h rfl).elim
/-- a method of a list or a tuple that changes nothing -/
theorem mth_gen {mt : Mth} {o : Ex} {nm : Str} {ap cp : Pos} {idL idT : String} {e : Expr} (hK : W.K = X.K) (hw : ∀ ρ Q, Wg.wX Φ (.mth mt o es) ρ Q → Wg.opd o (Wg.wX Φ o ρ) ρ fun x ρ1 => x.get ρ1 fun x0 => Wg.kindD x0 ≠ 0 ∧ Wg.wOs Φ es ρ1 fun os ρ2 => x.get ρ2 fun x' => Wg.kindD x' = Wg.kindD x0 ∧ Wg.gets ρ2 os fun ds => Wg.mthV mt x' ds fun s => Q s ρ2)
    (slotL : Slot "list" nm idL) (slotT : Slot "tuple" nm idT) (tyL : typeOf (.builtin idL) = pure (.type "method_descriptor")) (tyT : typeOf (.builtin idT) = pure (.type "method_descriptor"))
    (mL : MtR X idL (rMthL W mt)) (mT : MtR X idT (rMthT W mt)) (ho : PE X l (tO W Φ o)) (ha : PA X (e :: xs) (tOs W Φ es)) (hp : (e :: xs).all plB = true) (hl : xs.length < 20) (hc : notCall l = true) (hline : (ap.endLine == cp.line) = true) :
    PE X (.Call (.Attribute l nm ap) (e :: xs) [] cp) (tX W Φ (.mth mt o es)) := by
  refine ⟨fun pins s σ H Q I ⟨Z, S, ρ, Qs, r, hx, k⟩ => ?_⟩
  have hs := star_pl (es := xs) (env := X.env) (by simp only [List.all_cons, Bool.and_eq_true] at hp; exact hp.1)
  have hpl : (backTo cp (starEach xs X.env)).any (·.1) = false := by
    simp only [List.all_cons, Bool.and_eq_true] at hp
    exact (plAll_star hp.2 cp).2
  refine wpAny_Call_method_late (base_pl hc) (few_pl hp hl) hline rfl (thn (ho.run pins s σ H (fun x H1 => ∃ S1 ρ1 ox x0, Ext Z S H S1 H1 ∧ R W Z S1 ρ1 σ H1 ∧ RepO W S1 σ H1 x ox ∧ RepT W S1 H1 x x0 ∧ Wg.kindD x0 ≠ 0 ∧ Wg.wOs Φ es ρ1 fun os ρ2 => ox.get ρ2 fun x' => Wg.kindD x' = Wg.kindD x0 ∧ Wg.gets ρ2 os fun ds => Wg.mthV mt x' ds fun s => Qs s ρ2) I ⟨Z, S, ρ, _, r, hw ρ Qs hx, fun x H1 S1 ρ1 ox e1 r1 rx q1 => ?_⟩) fun v s1 ⟨x, H1, I1, r1, q1⟩ => ?_)
  · obtain ⟨x0, ⟨q2, q3⟩, rx0⟩ := RepO.get r1 rx q1
    exact ⟨S1, ρ1, ox, x0, e1, r1, rx, rx0, q2, q3⟩
  · obtain ⟨S1, ρ1, ox, x0, e1, rr, rx, rx0, k0, q⟩ := q1
    have run : ∀ (id : String), (∀ H2 S2 ρ2 vs Qd x', R W Z S2 ρ2 σ H2 → RepT W S2 H2 x x' → Wg.kindD x' = Wg.kindD x0 → (∃ ds, RepTs W S2 H2 vs ds ∧ Wg.mthV mt x' ds Qd) → ∀ s2 us, Inv X pins σ H2 s2 → Vals vs us → Res W Z S2 ρ2 σ H2 Q Qd → wpAny (model X.prog X.w) X.A (call (.builtin id) (v :: us)) (EP X pins σ Q) X.xe s2) →
        wpAny (model X.prog X.w) X.A (callWith cp (.builtin id) [v] (backTo cp (starEach (e :: xs) X.env)) []) (EP X pins σ Q) X.xe s1 := fun id step => by
      have hA := ha.run cp pins s1 σ H1 (fun vs H2 => ∃ S2 ρ2 x' Qd, R W Z S2 ρ2 σ H2 ∧ RepT W S2 H2 x x' ∧ Wg.kindD x' = Wg.kindD x0 ∧ (∃ ds, RepTs W S2 H2 vs ds ∧ Wg.mthV mt x' ds Qd) ∧ Res W Z S2 ρ2 σ H2 Q Qd) I1 ⟨Z, S1, ρ1, _, rr, q, fun vs H2 S2 ρ2 os e2 r2 rs _ q2 => by
        obtain ⟨x', ⟨kx, q3⟩, rx'⟩ := RepO.get r2 (RepO.ext e2 rx) q2
        obtain ⟨ds, q4, rd⟩ := RepOs.get r2 rs q3
        exact ⟨S2, ρ2, x', _, r2, rx', kx, ⟨ds, rd, q4⟩, fun v H' S' s e3 r3 rv q => k v H' S' ρ2 s ((e1.trans e2).trans e3) r3 rv q⟩⟩
      rw [hs] at hA ⊢
      refine Calls.callWith_builtin (by show (false || (backTo cp (starEach xs X.env)).any (·.1)) = false; rw [hpl] <;> rfl) (Calls.evalArgs_plain ?_)
      exact thn hA fun us s2 ⟨vs, H2, I2, r2, S2, ρ2, x', Qd, g1, g2, g3, g4, g5⟩ => step H2 S2 ρ2 vs Qd x' g1 g2 g3 g4 s2 us I2 r2 g5
    rcases kind12 k0 with k1 | k2
    · obtain ⟨l0, rfl⟩ := kind1 k1
      obtain ⟨p, ys, rfl, hp', _⟩ := rx0.lst
      obtain ⟨h1, h2⟩ := tyV_is (T := "list") I1 r1 (show tyV X.K "list" (.ref p) H1 from .inl ⟨rfl, ys, SqL.of hp'⟩)
      refine ⟨"list", idL, PySem.F.plainAttrs_list, slotL, tyL, h1, h2, run idL fun H2 S2 ρ2 vs Qd x' g1 g2 g3 g4 s2 us I2 r2 g5 => ?_⟩
      obtain ⟨l', rfl⟩ := kind1 (g3.trans k1)
      obtain ⟨ds, g6, g7⟩ := g4
      exact mL pins s2 σ H2 _ vs v us Q I2 r1 r2 ⟨Z, S2, ρ2, σ, l', ds, Qd, g1, g2, g6, g7, g5⟩
    · obtain ⟨l0, rfl⟩ := kind2 k2
      have rx0 : Rep W S1 H1 x (.tup l0) := rx0
      have there : s1.TypeIs v "tuple" ∧ ∀ a, v = .ref a → ∃ ob, s1.heap.get? a = some ob ∧ ob.dict = none := by
        cases rx0 with
        | tup hs' hH hd' hr =>
          cases r1
          obtain ⟨he, _, its, _, ob, e2, c2, _⟩ := I1.hok _ _ hH
          rw [he] at e2; cases e2
          exact ⟨⟨_, he, c2⟩, fun a e => by cases e; exact ⟨_, he, hd'⟩⟩
        | ktup hk hr =>
          cases r1
          obtain ⟨ob, its, n, h1, h2, h3, _⟩ := hk
          have he := I1.kIn _ ob (hK ▸ h1)
          exact ⟨⟨_, he, h2⟩, fun a e => by cases e; exact ⟨_, he, h3⟩⟩
      refine ⟨"tuple", idT, PySem.F.plainAttrs_tuple, slotT, tyT, there.1, there.2, run idT fun H2 S2 ρ2 vs Qd x' g1 g2 g3 g4 s2 us I2 r2 g5 => ?_⟩
      obtain ⟨l', rfl⟩ := kind2 (g3.trans k2)
      obtain ⟨ds, g6, g7⟩ := g4
      exact mT pins s2 σ H2 _ vs v us Q I2 r1 r2 ⟨Z, S2, ρ2, σ, l', ds, Qd, g1, g2, g6, g7, g5⟩
theorem snd_index {o : Ex} {e : Expr} {ap cp : Pos} (g : Good T W Φ N X) (ho : PE X l (tO W Φ o)) (ha : PA X (e :: xs) (tOs W Φ es)) (hp : (e :: xs).all plB = true) (hl : xs.length < 20) (hc : notCall l = true) (hline : (ap.endLine == cp.line) = true) :
    PE X (.Call (.Attribute l "index" ap) (e :: xs) [] cp) (tX W Φ (.mth .index o es)) :=
  mth_gen g.hK (fun _ _ h => h) PySem.F.slot_list_index PySem.F.slot_tuple_index PySem.F.type_list_index PySem.F.type_tuple_index (mt_indexL g.hK g.hu) (mt_indexT g.hK g.hu) ho ha hp hl hc hline
theorem snd_count {o : Ex} {e : Expr} {ap cp : Pos} (g : Good T W Φ N X) (ho : PE X l (tO W Φ o)) (ha : PA X (e :: xs) (tOs W Φ es)) (hp : (e :: xs).all plB = true) (hl : xs.length < 20) (hc : notCall l = true) (hline : (ap.endLine == cp.line) = true) :
    PE X (.Call (.Attribute l "count" ap) (e :: xs) [] cp) (tX W Φ (.mth .count o es)) :=
  mth_gen g.hK (fun _ _ h => h) PySem.F.slot_list_count PySem.F.slot_tuple_count PySem.F.type_list_count PySem.F.type_tuple_count (mt_countL g.hK g.hu) (mt_countT g.hK g.hu) ho ha hp hl hc hline
/-- a list of one's own is written -/
theorem R.put {Z S : AS} {ρ : Wg.Env} {σ : L2.St} {H : Hp} {k : Nat} {l : List D} (r : R W Z S ρ σ H) (e : ρ[k]? = some (.ol l)) : ∃ a xs, σ[k]? = some (some (.ref a)) ∧ H a = some (.lst xs) ∧ Reps W S H xs l ∧
    ∀ xs' l', Reps W S H xs' l' → Ext Z S H S (L2.upd H a (.lst xs')) ∧ R W Z S (ρ.set k (.ol l')) σ (L2.upd H a (.lst xs')) := by
  obtain ⟨a, xs, h1, h2, h3, h4⟩ := r.ol k l e
  have hk : k < ρ.length := (List.getElem?_eq_some_iff.mp e).1
  refine ⟨a, xs, h1, h2, h4, fun xs' l' h5 => ?_⟩
  have ks : ∀ b, S b → S b ∧ (L2.upd H a (.lst xs')) b = H b := fun b h => ⟨h, upd_ne (fun e => h3.1 (e ▸ h))⟩
  have own : ∀ j : Nat, isOwn (ρ.set k (Slot.ol l'))[j]? → isOwn ρ[j]? := fun j o => by
    by_cases q : j = k
    · subst q; rw [e]; trivial
    · rw [List.getElem?_set_ne (Ne.symm q)] at o; exact o
  refine ⟨Ext.upd h3 _, ⟨by rw [List.length_set]; exact r.len, r.keep, fun j d q => ?_, fun j m q => ?_, fun j m q => ?_, fun j i b o1 o2 e1 e2 => r.dis j i b (own j o1) (own i o2) e1 e2, fun b h => ?_, r.dz, fun p hp => ?_⟩⟩
  · by_cases c : j = k
    · subst c; rw [List.getElem?_set_self hk] at q; cases q
    · rw [List.getElem?_set_ne (Ne.symm c)] at q
      obtain ⟨w, g1, g2⟩ := r.sh j d q
      exact ⟨w, g1, Rep.mono ks _ _ g2⟩
  · by_cases c : j = k
    · subst c
      rw [List.getElem?_set_self hk] at q
      cases q
      exact ⟨a, xs', h1, upd_same, h3, Reps.mono ks _ _ h5⟩
    · rw [List.getElem?_set_ne (Ne.symm c)] at q
      obtain ⟨b, ys, g1, g2, g3, g4⟩ := r.ol j m q
      have ne : b ≠ a := fun z => c (r.dis j k a (by rw [q]; trivial) (by rw [e]; trivial) (z ▸ g1) h1)
      exact ⟨b, ys, g1, (upd_ne ne).trans g2, g3, Reps.mono ks _ _ g4⟩
  · by_cases c : j = k
    · subst c; rw [List.getElem?_set_self hk] at q; cases q
    · rw [List.getElem?_set_ne (Ne.symm c)] at q
      obtain ⟨b, ys, g1, g2, g3, g4⟩ := r.od j m q
      have ne : b ≠ a := fun z => c (r.dis j k a (by rw [q]; trivial) (by rw [e]; trivial) (z ▸ g1) h1)
      exact ⟨b, ys, g1, (upd_ne ne).trans g2, g3, RepKs.mono ks g4⟩
  · by_cases c : b = a
    · rw [c, upd_same]; simp
    · rw [upd_ne c]; exact r.trk b h
  · obtain ⟨g1, g2, g3, ns, i, x, c, z, e1, e3, e4⟩ := r.pool p hp
    have n1 : p ≠ a := fun q => h3.2.2 (q ▸ hp)
    exact ⟨g1, g2, g3, ns, i, x, c, z, (upd_ne n1).trans e1, (ks _ g3).2.trans e3, e4⟩
/-- a dict of one's own is written -/
theorem R.putD {Z S : AS} {ρ : Wg.Env} {σ : L2.St} {H : Hp} {k : Nat} {l : List (D × D)} (r : R W Z S ρ σ H) (e : ρ[k]? = some (.od l)) : ∃ a xs, σ[k]? = some (some (.ref a)) ∧ H a = some (.dK xs) ∧ RepKs W S H xs l ∧
    ∀ xs' l', RepKs W S H xs' l' → Ext Z S H S (L2.upd H a (.dK xs')) ∧ R W Z S (ρ.set k (.od l')) σ (L2.upd H a (.dK xs')) := by
  obtain ⟨a, xs, h1, h2, h3, h4⟩ := r.od k l e
  have hk : k < ρ.length := (List.getElem?_eq_some_iff.mp e).1
  refine ⟨a, xs, h1, h2, h4, fun xs' l' h5 => ?_⟩
  have ks : ∀ b, S b → S b ∧ (L2.upd H a (.dK xs')) b = H b := fun b h => ⟨h, upd_ne (fun e => h3.1 (e ▸ h))⟩
  have own : ∀ j : Nat, isOwn (ρ.set k (Slot.od l'))[j]? → isOwn ρ[j]? := fun j o => by
    by_cases q : j = k
    · subst q; rw [e]; trivial
    · rw [List.getElem?_set_ne (Ne.symm q)] at o; exact o
  refine ⟨Ext.upd h3 _, ⟨by rw [List.length_set]; exact r.len, r.keep, fun j d q => ?_, fun j m q => ?_, fun j m q => ?_, fun j i b o1 o2 e1 e2 => r.dis j i b (own j o1) (own i o2) e1 e2, fun b h => ?_, r.dz, fun p hp => ?_⟩⟩
  · by_cases c : j = k
    · subst c; rw [List.getElem?_set_self hk] at q; cases q
    · rw [List.getElem?_set_ne (Ne.symm c)] at q
      obtain ⟨w, g1, g2⟩ := r.sh j d q
      exact ⟨w, g1, Rep.mono ks _ _ g2⟩
  · by_cases c : j = k
    · subst c; rw [List.getElem?_set_self hk] at q; cases q
    · rw [List.getElem?_set_ne (Ne.symm c)] at q
      obtain ⟨b, ys, g1, g2, g3, g4⟩ := r.ol j m q
      have ne : b ≠ a := fun z => c (r.dis j k a (by rw [q]; trivial) (by rw [e]; trivial) (z ▸ g1) h1)
      exact ⟨b, ys, g1, (upd_ne ne).trans g2, g3, Reps.mono ks _ _ g4⟩
  · by_cases c : j = k
    · subst c
      rw [List.getElem?_set_self hk] at q
      cases q
      exact ⟨a, xs', h1, upd_same, h3, RepKs.mono ks h5⟩
    · rw [List.getElem?_set_ne (Ne.symm c)] at q
      obtain ⟨b, ys, g1, g2, g3, g4⟩ := r.od j m q
      have ne : b ≠ a := fun z => c (r.dis j k a (by rw [q]; trivial) (by rw [e]; trivial) (z ▸ g1) h1)
      exact ⟨b, ys, g1, (upd_ne ne).trans g2, g3, RepKs.mono ks g4⟩
  · by_cases c : b = a
    · rw [c, upd_same]; simp
    · rw [upd_ne c]; exact r.trk b h
  · obtain ⟨g1, g2, g3, ns, i, x, c, z, e1, e3, e4⟩ := r.pool p hp
    have n1 : p ≠ a := fun q => h3.2.2 (q ▸ hp)
    exact ⟨g1, g2, g3, ns, i, x, c, z, (upd_ne n1).trans e1, (ks _ g3).2.trans e3, e4⟩
theorem R.ownL {Z S : AS} {ρ : Wg.Env} {σ : L2.St} {H : Hp} {k : Nat} (r : R W Z S ρ σ H) (h : Wg.ownL ρ k) : ∃ a xs, σ[k]? = some (some (.ref a)) ∧ H a = some (.lst xs) := by
  unfold Wg.ownL at h
  split at h
  · rename_i l e
    obtain ⟨a, xs, h1, h2, _⟩ := r.ol k l e
    exact ⟨a, xs, h1, h2⟩
  · exact h.elim
theorem snd_append {k : Nat} {e : Expr} {ap cp : Pos} (hv : PE X l (tVar k)) (ha : PE X e (tX W Φ a)) (hp : plB e = true) (hc : notCall l = true) (hline : (ap.endLine == cp.line) = true) :
    PE X (.Call (.Attribute l "append" ap) [e] [] cp) (tX W Φ (.mth .append (.var k) (.c a .n))) := by
  have pl : ([e] : List Expr).all plB = true := by simp [hp]
  refine PE.imp (pe_bm PySem.F.plainAttrs_list PySem.F.slot_list_append PySem.F.type_list_append mt_append hv (pa_cons ha pa_nil (star_pl hp)) (base_pl hc) (few_pl pl (by decide)) hline (star_pl hp) rfl) fun σ H Q ⟨Z, S, ρ, Qs, r, hw, k⟩ => ?_
  have hw : Wg.ownL ρ _ ∧ Wg.wX Φ a ρ fun s ρ1 => Wg.appK ρ1 _ s.val Qs := hw
  obtain ⟨b, ys, h1, h2⟩ := r.ownL hw.1
  refine ⟨_, h1, .inl ⟨rfl, ys, SqL.of h2⟩, Z, S, ρ, _, r, hw.2, fun v H1 S1 ρ1 s e1 r1 rv q => ?_⟩
  obtain ⟨S2, e2, r2, rv2⟩ := fin_val r1 rv
  unfold Wg.appK at q
  split at q
  · rename_i l el
    obtain ⟨b', xs', h3, h4, h5, h6⟩ := r2.put el
    rw [h1] at h3; cases h3
    obtain ⟨e3, r3⟩ := h6 (xs' ++ [v]) (l ++ [s.val]) (h5.snoc rv2)
    refine ⟨b, xs', v, rfl, rfl, h4, ?_, k .non _ S2 _ (.sh .non) (e1.trans (e2.trans e3)) r3 .non q.2⟩
    rw [h5.length]
    have := LB_line
    omega
  · exact q.elim
theorem snd_extend {k : Nat} {e : Expr} {ap cp : Pos} (hv : PE X l (tVar k)) (ha : PE X e (tX W Φ a)) (hp : plB e = true) (hc : notCall l = true) (hline : (ap.endLine == cp.line) = true) :
    PE X (.Call (.Attribute l "extend" ap) [e] [] cp) (tX W Φ (.mth .extend (.var k) (.c a .n))) := by
  have pl : ([e] : List Expr).all plB = true := by simp [hp]
  refine PE.imp (pe_bm PySem.F.plainAttrs_list PySem.F.slot_list_extend PySem.F.type_list_extend mt_extend hv (pa_cons ha pa_nil (star_pl hp)) (base_pl hc) (few_pl pl (by decide)) hline (star_pl hp) rfl) fun σ H Q ⟨Z, S, ρ, Qs, r, hw, k⟩ => ?_
  have hw : Wg.ownL ρ _ ∧ Wg.wX Φ a ρ fun s ρ1 => Wg.extK ρ1 _ s.val Qs := hw
  obtain ⟨b, ys, h1, h2⟩ := r.ownL hw.1
  refine ⟨_, h1, .inl ⟨rfl, ys, SqL.of h2⟩, Z, S, ρ, _, r, hw.2, fun v H1 S1 ρ1 s e1 r1 rv q => ?_⟩
  obtain ⟨S2, e2, r2, rv2⟩ := fin_val r1 rv
  unfold Wg.extK at q
  split at q
  · rename_i l m el es
    obtain ⟨b', xs', h3, h4, h5, h6⟩ := r2.put el
    rw [h1] at h3; cases h3
    rw [es] at rv2
    cases rv2 with
    | lst hs ha' hr =>
      rename_i c zs
      obtain ⟨e3, r3⟩ := h6 (xs' ++ zs) (l ++ m) (h5.append hr)
      refine ⟨b, c, xs', zs, rfl, rfl, h4, ha', ?_, k .non _ S2 _ (.sh .non) (e1.trans (e2.trans e3)) r3 .non q.2⟩
      rw [h5.length, hr.length]
      have := LB_line
      omega
  · exact q.elim
theorem snd_pop {k : Nat} {ap cp : Pos} (hv : PE X l (tVar k)) (hc : notCall l = true) (hline : (ap.endLine == cp.line) = true) :
    PE X (.Call (.Attribute l "pop" ap) [] [] cp) (tX W Φ (.mth .pop (.var k) .n)) := by
  refine PE.imp (pe_bm0 PySem.F.plainAttrs_list PySem.F.slot_list_pop PySem.F.type_list_pop mt_pop hv (base_pl hc) hline) fun σ H Q ⟨Z, S, ρ, Qs, r, hw, k⟩ => ?_
  have hw : Wg.popK ρ _ Qs := hw
  unfold Wg.popK at hw
  split at hw
  · rename_i l el
    obtain ⟨b, xs, h3, h4, h5, h6⟩ := r.put el
    unfold Wg.popL at hw
    split at hw
    · rename_i d ed
      obtain ⟨v, hv, rd⟩ := h5.get ed
      obtain ⟨e3, r3⟩ := h6 xs.dropLast l.dropLast h5.dropLast
      exact ⟨_, h3, .inl ⟨rfl, xs, SqL.of h4⟩, b, xs, v, rfl, rfl, h4, by rw [h5.length]; exact hv, k v _ S _ (.sh d) e3 r3 (Rep.mono e3.s _ _ rd) hw⟩
    · exact hw.elim
  · exact hw.elim
end
end WgS
set_option Elab.async false
set_option linter.all false
set_option maxRecDepth 100000
set_option maxHeartbeats 1000000
/-! WgS: zip of a tuple and a list. -/
namespace WgS
open PySem PySem.Spec PyProof.Rows L2
theorem sepOf {z A B i1 i2 a b : Addr} (D : ZipApart z A B i1 i2 a b) : ZipSep2 z A B i1 i2 [i1, a] [i2, b] where
  TIz := D.TIz
  TOz := D.TOz
  TITO := D.TITO
  TIi1 := D.TIi1
  mem1 := by simp
  zf1 := by simp [D.i1z.symm, D.l1z.symm]
  Tf1 := by simp [D.TOi1, D.l1TO.symm]
  TIi2 := D.TIi2
  mem2 := by simp
  zf2 := by simp [D.i2z.symm, D.l2z.symm]
  Tf2 := by simp [D.TOi2, D.l2TO.symm]
  sep1_2 := by simp [D.i12, D.l2i1.symm]
  sep2_1 := by simp [D.i12.symm, D.l1i2.symm]
/-- the tuple at a and the list at b as they stand at each turn -/
def ItzM (K : PySem.W.Frag) (a b : Addr) : L2.It :=
  ⟨fun i H => ∃ (xs ys : List V) (x y : V), SqT K H a xs ∧ SqL K H b ys ∧ xs[i]? = some x ∧ ys[i]? = some y,
    fun i H v H' => ∃ T x y, v = .ref T ∧ H T = none ∧ H' = upd H T (.tup [x, y]) ∧ (∀ xs, SqT K H a xs → xs[i]? = some x) ∧ ∀ ys, SqL K H b ys → ys[i]? = some y,
    fun i H => ∃ xs ys : List V, SqT K H a xs ∧ SqL K H b ys ∧ i ≤ xs.length ∧ i ≤ ys.length ∧ (i = xs.length ∨ i = ys.length)⟩
theorem five {c z A B i1 i2 : Addr} (h : c ∈ [z, A, B, i1, i2]) : c = z ∨ c = A ∨ c = B ∨ c = i1 ∨ c = i2 := by simpa using h
theorem turn_zipM {P : Program} {w : World} {K : PySem.W.Frag} {els : List Expr} {n0 : Nat} {ps : Pos} {a b z A B i1 i2 : Addr} (D : ZipApart z A B i1 i2 a b) :
    Turn P w K (.Tuple els n0 ps) (ItzM K a b) [z, A, B, i1, i2] z (fun i h => IsZip h z A B .none ∧ IsPair h A (.ref i1) (.ref i2) ∧ (∃ x y, IsPair h B x y) ∧ h.IsTupleIter i1 a i ∧ h.IsListIter i2 b i) where
  mem := by simp
  obj := fun i h st c hc => by
    obtain ⟨gz, gA, ⟨x, y, gB⟩, ⟨o1, e1, _, d1⟩, ⟨o2, e2, _, d2⟩⟩ := st
    rcases five hc with q | q | q | q | q
    · subst q; exact ⟨_, gz, nofun⟩
    · subst q; exact ⟨_, gA, nofun⟩
    · subst q; exact ⟨_, gB, nofun⟩
    · subst q; exact ⟨o1, e1, fun v q => by rw [d1] at q; cases q⟩
    · subst q; exact ⟨o2, e2, fun v q => by rw [d2] at q; cases q⟩
  keep := fun i h h' st k => by
    obtain ⟨gz, gA, ⟨x, y, gB⟩, g1, g2⟩ := st
    exact ⟨k z (by simp) _ gz, k A (by simp) _ gA, ⟨x, y, k B (by simp) _ gB⟩, g1.at fun o q => k i1 (by simp) o q, g2.at fun o q => k i2 (by simp) o q⟩
  item := by
    intro X eP ew eK hc i pins s σ H E I hf st hg
    subst eP ew eK
    obtain ⟨gz, gA, ⟨x0, y0, gB⟩, g1, g2⟩ := st
    obtain ⟨xs, ys, x, y, kx, ky, hx, hy⟩ := hg
    obtain ⟨us, rv, p, _⟩ := I.tuple kx
    obtain ⟨us2, rv2, p2, _⟩ := I.list ky
    obtain ⟨u, hu, ru⟩ := rv.get hx
    obtain ⟨u2, hu2, ru2⟩ := rv2.get hy
    have zlt : z < s.heap.objs.size := Heap.lt_size gz
    have hh : X.A.in1.handled = none := I.ok.hd hc
    have l1 : i < us.toArray.size := by have := (List.getElem?_eq_some_iff.mp hu).1; simpa using this
    have l2 : i < us2.toArray.size := by have := (List.getElem?_eq_some_iff.mp hu2).1; simpa using this
    refine wpAny_pyNext_zipD2_item (sepOf D) (Draws.tuple hh i1 a D.l1i1 us.toArray) (Draws.list hh i2 b D.l2i2 us2.toArray) gz gA gB ⟨g1, p⟩ ⟨g2, p2.isList⟩ l1 l2 fun v v2 h' tk pv pv2 kz kB st1 st2 kT ksz kk => ?_
    have ev : v = u := by
      have : us[i]? = some v := by simpa using pv
      rw [hu] at this; exact (Option.some.inj this).symm
    have ev2 : v2 = u2 := by
      have : us2[i]? = some v2 := by simpa using pv2
      rw [hu2] at this; exact (Option.some.inj this).symm
    subst ev ev2
    refine ⟨_, rfl, wpAny_letOwnedTupleGo_zip (s := { s with heap := h', toks := tk }) kz fun h'' mz sb => ?_⟩
    have kT2 : h''.get? s.heap.objs.size = some { cls := .type "tuple", data := .seq #[v, v2] } := (sb.2 _ (Nat.ne_of_gt zlt)).trans kT
    have fresh : ObjOk X.prog X.w (upd H s.heap.objs.size (.tup [x, y])) h'' s.heap.objs.size (.tup [x, y]) :=
      ⟨by show 2 ≤ sizeLine; decide, [v, v2], .cons ru (.cons ru2 .nil), ⟨_, kT2, rfl, _, rfl⟩⟩
    have J : Inv X pins σ (upd H s.heap.objs.size (.tup [x, y])) { s with heap := h'', toks := tk } :=
      I.turnedNew (t' := tk) (ch := [z, A, B, i1, i2]) (fun c o nb q => (sb.2 c (fun q' => nb (by simp [q']))).trans (kk c o (fun q' => nb (by simp [q'])) (fun q' => nb (by simp [q'])) (fun q' => nb (by simp [q'])) (fun q' => nb (by simp [q'])) q)) hf (Nat.le_refl _) fresh
    refine ⟨.ref s.heap.objs.size, _, J, rfl, ⟨_, x, y, rfl, I.hok.fresh (Nat.le_refl _), rfl, fun l hl => by rw [I.tuple_inj hl kx]; exact hx, fun l hl => by rw [I.list_inj hl ky]; exact hy⟩, ⟨mz, ?_, ⟨v, v2, ?_⟩, ?_, ?_⟩, fun c hcm => ?_⟩
    · exact (sb.2 _ D.TIz).trans (kk _ _ D.TIz D.TITO D.TIi1 D.TIi2 gA)
    · exact (sb.2 _ D.TOz).trans kB
    · exact st1.1.at fun o q => (sb.2 _ D.i1z).trans q
    · exact st2.1.at fun o q => (sb.2 _ D.i2z).trans q
    · have lt : c < s.heap.objs.size := by
        rcases five hcm with q | q | q | q | q
        · subst q; exact zlt
        · subst q; exact Heap.lt_size gA
        · subst q; exact Heap.lt_size gB
        · subst q; obtain ⟨_, e1, _⟩ := g1; exact Heap.lt_size e1
        · subst q; obtain ⟨_, e2, _⟩ := g2; exact Heap.lt_size e2
      rw [upd_ne (Nat.ne_of_lt lt)]
      exact (hf c hcm).1
  done := by
    intro X eP ew eK hc i pins s σ H E I hf st hg
    subst eP ew eK
    obtain ⟨gz, gA, ⟨x0, y0, gB⟩, g1, g2⟩ := st
    obtain ⟨xs, ys, kx, ky, hend⟩ := hg
    obtain ⟨us, rv, p, _⟩ := I.tuple kx
    obtain ⟨us2, rv2, p2, _⟩ := I.list ky
    have hh : X.A.in1.handled = none := I.ok.hd hc
    have l1 := rv.length
    have l2 := rv2.length
    refine wpAny_pyNext_zipD2_end (sepOf D) (Draws.tuple hh i1 a D.l1i1 us.toArray) (Draws.list hh i2 b D.l2i2 us2.toArray) gz gA gB ⟨g1, p⟩ ⟨g2, p2.isList⟩ (by simp; omega) (by simp; omega) (by simp; omega) fun h' tk kk => ⟨rfl, ?_⟩
    exact I.turnedL (t' := tk) (ch := [z, A, B, i1, i2]) (fun c o nb q => kk c o (fun q' => nb (by simp [q'])) (fun q' => nb (by simp [q'])) (fun q' => nb (by simp [q'])) (fun q' => nb (by simp [q'])) q) hf
  self := fun A' i s Q E st h => wpAny_pyIter_zip st.1 h
/-- the heap as zip(tuple, list) leaves it -/
def zh1 (h : Heap) (a : Addr) : Heap := h.push { cls := .type "tuple_iterator", data := .fields #[.ref a, .int 0 0] }
def zh2 (h : Heap) (a b : Addr) : Heap := (zh1 h a).push { cls := .type "list_iterator", data := .fields #[.ref b, .int 0 0] }
def zh3 (h : Heap) (a b : Addr) : Heap := (zh2 h a b).push { cls := .type "tuple", data := .seq #[.ref h.objs.size, .ref (zh1 h a).objs.size] }
def zh4 (h : Heap) (a b : Addr) : Heap := (zh3 h a b).push { cls := .type "tuple", data := .seq #[.none, .none] }
def zh5 (h : Heap) (a b : Addr) : Heap := (zh4 h a b).push { cls := .type "zip", data := .fields #[.none, .bool false, .bool false, .ref (zh2 h a b).objs.size, .ref (zh3 h a b).objs.size] }
theorem newZipM (a b : Addr) (xs ys : Array Value) :
    Meets (Builtin.«zip.__new__» ⟨[.type "zip", .ref a, .ref b], []⟩) (fun _ R s => s.heap.IsTuple a xs ∧ s.heap.IsList b ys ∧ R (.ok (.ret (.ref (zh4 s.heap a b).objs.size))) { s with heap := zh5 s.heap a b }) :=
  .of_wp fun prog w A R s h => by
    obtain ⟨hp, g, d, tk, os⟩ := s; obtain ⟨k1, k2, h⟩ := h
    have sz := sub_zip
    have m1 : Heap.IsTuple (Shared.heap ⟨hp, g, d, tk, os⟩) a xs := k1
    have m2 : Heap.IsList (Shared.heap ⟨hp.push { cls := .type "tuple_iterator", data := .fields #[.ref a, .int 0 0] }, g, d, tk, os⟩) b ys := Heap.IsList.push k2 _
    wp_walk using wpAny_pyIter_tuple m1, wpAny_pyIter_list m2
    exact ⟨_, rfl, h⟩
theorem call_zipM {prog : Program} {w : World} {A : Around} {E : Value → Shared → Prop} {s : Shared} {a b : Addr} {xs ys : Array Value} {Q : Value → Shared → Prop} (k1 : s.heap.IsTuple a xs) (k2 : s.heap.IsList b ys)
    (h : ∀ h', IsZip h' (s.heap.objs.size + 4) (s.heap.objs.size + 2) (s.heap.objs.size + 3) .none → IsPair h' (s.heap.objs.size + 2) (.ref s.heap.objs.size) (.ref (s.heap.objs.size + 1)) → IsPair h' (s.heap.objs.size + 3) .none .none →
      h'.IsTupleIter s.heap.objs.size a 0 → h'.IsListIter (s.heap.objs.size + 1) b 0 → (∀ c o, s.heap.get? c = some o → h'.get? c = some o) → Q (.ref (s.heap.objs.size + 4)) { s with heap := h' }) :
    wpAny (model prog w) A (call (.type "zip") [.ref a, .ref b]) Q E s := by
  refine callType_new F.called_zip (by decide) (F.typeCall_zip_2 _ _) (F.newCall_zip_2 _ _) (fun obj => F.args_object_init_3 obj _ _) F.entry_zip_new (newZipM a b xs ys) ⟨k1, k2, ?_⟩
  have n1 : (zh1 s.heap a).objs.size = s.heap.objs.size + 1 := Heap.size_push ..
  have n2 : (zh2 s.heap a b).objs.size = s.heap.objs.size + 2 := by unfold zh2; rw [Heap.size_push, n1]
  have n3 : (zh3 s.heap a b).objs.size = s.heap.objs.size + 3 := by unfold zh3; rw [Heap.size_push, n2]
  have n4 : (zh4 s.heap a b).objs.size = s.heap.objs.size + 4 := by unfold zh4; rw [Heap.size_push, n3]
  have p5 : (zh5 s.heap a b).get? (zh4 s.heap a b).objs.size = some _ := Heap.get?_push_size _ rfl
  have p4 : (zh4 s.heap a b).get? (zh3 s.heap a b).objs.size = some _ := Heap.get?_push_size _ rfl
  have p3 : (zh3 s.heap a b).get? (zh2 s.heap a b).objs.size = some _ := Heap.get?_push_size _ rfl
  have p2 : (zh2 s.heap a b).get? (zh1 s.heap a).objs.size = some _ := Heap.get?_push_size _ rfl
  have p1 : (zh1 s.heap a).get? s.heap.objs.size = some _ := Heap.get?_push_size _ rfl
  have q4 : (zh5 s.heap a b).get? _ = some _ := Heap.get?_push_of_some _ p4
  have q3 : (zh5 s.heap a b).get? _ = some _ := Heap.get?_push_of_some _ (Heap.get?_push_of_some _ p3)
  have q2 : (zh5 s.heap a b).get? _ = some _ := Heap.get?_push_of_some _ (Heap.get?_push_of_some _ (Heap.get?_push_of_some _ p2))
  have q1 : (zh5 s.heap a b).get? _ = some _ := Heap.get?_push_of_some _ (Heap.get?_push_of_some _ (Heap.get?_push_of_some _ (Heap.get?_push_of_some _ p1)))
  rw [n2, n3, n4] at p5
  rw [n1, n2] at q3
  rw [n3] at q4
  rw [n1] at q2
  show _ ∧ _
  rw [n4]
  exact ⟨⟨_, p5, rfl⟩, h _ p5 q3 q4 ⟨_, q1, rfl, rfl⟩ ⟨_, q2, rfl, rfl⟩ fun c o x => Heap.get?_push_of_some _ (Heap.get?_push_of_some _ (Heap.get?_push_of_some _ (Heap.get?_push_of_some _ (Heap.get?_push_of_some _ x))))⟩
/-- zip of two lists, of two tuples, or of a tuple and a list -/
def iZip3 (K : PySem.W.Frag) (ta : TA) : TI := fun σ H R => ta σ H fun vs H1 => ∃ a b xs ys, vs = [.ref a, .ref b] ∧
  ((SqL K H1 a xs ∧ SqL K H1 b ys ∧ R (Itz K a b) H1) ∨ (SqT K H1 a xs ∧ SqT K H1 b ys ∧ R (RZ.ItzT K a b) H1) ∨ (SqT K H1 a xs ∧ SqL K H1 b ys ∧ R (ItzM K a b) H1))
theorem pi_zip3 {X : Cx} {e e2 : Expr} {ta : TA} {p pos tpos : Pos} {els : List Expr} {n0 : Nat} (hg : Gl X "zip") (hm : X.mg "zip" = none) (ha : PA X [e, e2] ta)
    (hs : starEach [e, e2] X.env = (false, eval e X.env) :: starEach [e2] X.env) (hpl : (backTo pos (starEach [e2] X.env)).any (·.1) = false) :
    PI X (.Tuple els n0 tpos) (.Call (.Name "zip" p) [e, e2] [] pos) (iZip3 X.K ta) := by
  refine ⟨fun pins s σ H R I h => Call_ (ld_blt I hg hm PyProof.Rows.boot_zip (PyProof.Rows.callWith_type1 (thn (ha.run pos pins s σ H _ I h) fun us s1 ⟨vs, H1, I1, r1, q1⟩ => ?_) hs hpl))⟩
  obtain ⟨a, b, xs, ys, rfl, q1⟩ := q1
  obtain ⟨u, us, rfl, ru, r1⟩ : ∃ u us', us = u :: us' ∧ RelV (.ref a) u ∧ Vals [.ref b] us' := by
    cases r1 with
    | cons r rr => exact ⟨_, _, rfl, r, rr⟩
  obtain ⟨u2, rfl, ru2⟩ := vals1 r1
  cases ru
  cases ru2
  have fresh : ∀ c, c ∈ [s1.heap.objs.size + 4, s1.heap.objs.size + 2, s1.heap.objs.size + 3, s1.heap.objs.size, s1.heap.objs.size + 1] → FpOk X pins H1 c := fun c hcm => by
    have le : s1.heap.objs.size ≤ c := by
      rcases five hcm with q | q | q | q | q <;> subst q
      · exact Nat.le_add_right _ 4
      · exact Nat.le_add_right _ 2
      · exact Nat.le_add_right _ 3
      · exact Nat.le_refl _
      · exact Nat.le_add_right _ 1
    exact I1.fpOk le (I1.hok.fresh le)
  rcases q1 with ⟨kx, ky, q⟩ | ⟨kx, ky, q⟩ | ⟨kx, ky, q⟩
  · obtain ⟨us, rv, p1, _⟩ := I1.list kx
    obtain ⟨us2, rv2, p2, _⟩ := I1.list ky
    refine call_zip_2 p1.isList p2.isList fun h' g1 g2 g3 g4 g5 _ gk => wpAny_pyIter_zip g1 ?_
    exact ⟨_, _, _, _, H1, rfl, I1.kept (t' := s1.toks) gk, turn_zip (PySem.W.ktu_apart s1.heap.objs.size a b p1.lt p2.lt), ⟨g1, g2, ⟨_, _, g3⟩, g4, g5⟩, fresh, q⟩
  · obtain ⟨us, rv, p1, _⟩ := I1.tuple kx
    obtain ⟨us2, rv2, p2, _⟩ := I1.tuple ky
    obtain ⟨o1, w1, _⟩ := id p1
    obtain ⟨o2, w2, _⟩ := id p2
    refine RZ.call_zipT (show s1.heap.IsTuple a us.toArray from p1) (show s1.heap.IsTuple b us2.toArray from p2) fun h' g1 g2 g3 g4 g5 _ gk => wpAny_pyIter_zip g1 ?_
    exact ⟨_, _, _, _, H1, rfl, I1.kept (t' := s1.toks) gk, RZ.turn_zipT (PySem.W.ktu_apart s1.heap.objs.size a b (Heap.lt_size w1) (Heap.lt_size w2)), ⟨g1, g2, ⟨_, _, g3⟩, g4, g5⟩, fresh, q⟩
  · obtain ⟨us, rv, p1, _⟩ := I1.tuple kx
    obtain ⟨us2, rv2, p2, _⟩ := I1.list ky
    obtain ⟨o1, w1, _⟩ := id p1
    refine call_zipM (show s1.heap.IsTuple a us.toArray from p1) p2.isList fun h' g1 g2 g3 g4 g5 gk => wpAny_pyIter_zip g1 ?_
    exact ⟨_, _, _, _, H1, rfl, I1.kept (t' := s1.toks) gk, turn_zipM (PySem.W.ktu_apart s1.heap.objs.size a b (Heap.lt_size w1) p2.lt), ⟨g1, g2, ⟨_, _, g3⟩, g4, g5⟩, fresh, q⟩
end WgS
set_option Elab.async false
set_option linter.all false
set_option maxRecDepth 100000
set_option maxHeartbeats 1000000
/-! WgS: targets, what is walked, comprehensions. -/
namespace WgS
open PySem PySem.Spec PyProof.Rows L2
open Wg (D Slot Opd Ex Exs Tg Tgs Kvs Sts BOp COp Blt Mth LB)
open RZ (ItzT pi_zipA)
/-- what a target may take: a value; or, if it takes it apart, a tuple that nobody knows -/
def RepG (W : Wd) (Z S : AS) (ρ : Wg.Env) (σ : L2.St) (H : Hp) (v : V) (s : Slot) (t : Tg) : Prop :=
  RepS W Z S ρ σ H v s ∨ ((∃ ts, t = .tp ts) ∧ ∃ a xs l, s = .sh (.tup l) ∧ v = .ref a ∧ SqT W.K H a xs ∧ Reps W S H xs l)
def tT (W : Wd) (Φ : Wg.Ctx) (t : Tg) : TG := fun v σ H Q => ∃ Z S ρ s, ∃ Qt : Wg.Env → Prop, R W Z S ρ σ H ∧ RepG W Z S ρ σ H v s t ∧ Wg.wT Φ t s ρ Qt ∧
  ∀ σ' H' S' ρ', Ext Z S H S' H' → R W Z S' ρ' σ' H' → (∀ vs, tgIn vs t = true → wipe σ' vs = wipe σ vs) → Qt ρ' → Q σ' H'
def tTs (W : Wd) (Φ : Wg.Ctx) (ts : Tgs) : TGs := fun vs σ H Q => ∃ Z S ρ ds, ∃ Qt : Wg.Env → Prop, R W Z S ρ σ H ∧ Reps W S H vs ds ∧ ds.length = ts.len ∧ Wg.wTs Φ ts ds ρ Qt ∧
  ∀ σ' H' S' ρ', Ext Z S H S' H' → R W Z S' ρ' σ' H' → (∀ vs, tgsIn vs ts = true → wipe σ' vs = wipe σ vs) → Qt ρ' → Q σ' H'
theorem wipe_get : ∀ {vs : List Nat} {σ : L2.St} {j : Nat}, (wipe σ vs)[j]? = if j ∈ vs then (σ[j]?).map (fun _ => none) else σ[j]?
  | [], σ, j => by simp [wipe]
  | v :: vs, σ, j => by
    unfold wipe
    by_cases e : j = v
    · subst e
      rw [List.getElem?_set_self', wipe_get]
      simp only [List.mem_cons, true_or, if_true]
      split
      · cases σ[j]? <;> rfl
      · cases σ[j]? <;> rfl
    · rw [List.getElem?_set_ne (Ne.symm e), wipe_get]
      simp [List.mem_cons, e]
theorem wipe_set {vs : List Nat} {σ : L2.St} {i : Nat} {x : Option V} (h : vs.contains i = true) : wipe (σ.set i x) vs = wipe σ vs := by
  apply List.ext_getElem?
  intro j
  have hi : i ∈ vs := by simpa using h
  rw [wipe_get, wipe_get]
  by_cases e : j = i
  · subst e
    rw [if_pos hi, if_pos hi, List.getElem?_set_self']
    cases σ[j]? <;> rfl
  · rw [List.getElem?_set_ne (Ne.symm e)]
theorem wipe_wipe {vs : List Nat} {σ : L2.St} : wipe (wipe σ vs) vs = wipe σ vs := by
  apply List.ext_getElem?
  intro j
  rw [wipe_get, wipe_get]
  split
  · cases σ[j]? <;> rfl
  · rfl
section
variable {T : Tab} {X : Cx} {W : Wd} {Φ : Wg.Ctx} {N : List Str} {ex l r m : Expr} {pos np : Pos} {a b c : Ex} {es : Exs} {xs : List Expr} {x : Str}
theorem snd_nm {i : Nat} (hk : W.keep i = none) (hN : X.N.Nodup) (hi : X.N[i]? = some x) (hl : Loc X.env.scope x) (hf : X.fn x = true ∨ X.env.scope.names.lookup x = some .local) : PG X (.Name x pos) (tT W Φ (.nm i)) := by
  refine PG.imp (pg_name hN hi hl hf) fun v σ H Q ⟨Z, S, ρ, s, Qt, r, hv, hw, k⟩ => ?_
  rcases hv with hv | ⟨⟨ts, e⟩, _⟩
  · exact k _ H S _ .refl (r.set hk hv) (fun vs h => wipe_set h) hw
  · cases e
theorem each_pl {env : PySem.Env} : ∀ {xs : List Expr}, xs.all plB = true → (assignEach xs env).length = xs.length ∧ (assignEach xs env).findIdx? (·.1) = none
  | [], _ => ⟨rfl, rfl⟩
  | e :: es, h => by
    simp only [List.all_cons, Bool.and_eq_true] at h
    have q : assignEach (e :: es) env = (false, assign e env) :: assignEach es env := by
      obtain ⟨h1, _⟩ := h
      cases e <;> first | rfl | cases h1
    obtain ⟨h1, h2⟩ := each_pl (env := env) h.2
    rw [q]
    refine ⟨by rw [List.length_cons, List.length_cons, h1], ?_⟩
    rw [List.findIdx?_cons, h2]
    rfl
theorem snd_Ts0 : PGs X [] (tTs W Φ .n) := PGs.imp pgs_nil fun vs σ H Q ⟨Z, S, ρ, ds, Qt, r, hv, hl, hw, k⟩ => by
  cases hv with
  | nil => exact ⟨rfl, k σ H S ρ .refl r (fun _ _ => rfl) hw⟩
  | cons h t => exact absurd hl (by simp [Wg.Tgs.len])
theorem snd_Ts1 {t : Tg} {ts : Tgs} (h1 : PG X l (tT W Φ t)) (h2 : PGs X xs (tTs W Φ ts)) (hp : plB l = true) : PGs X (l :: xs) (tTs W Φ (.c t ts)) := by
  have hs : (assignEach (l :: xs) X.env).map (·.2) = assign l X.env :: (assignEach xs X.env).map (·.2) := by
    cases l <;> first | rfl | cases hp
  refine PGs.imp (pgs_cons h1 h2 hs) fun vs σ H Q ⟨Z, S, ρ, ds, Qt, r, hv, hl, hw, k⟩ => ?_
  cases hv with
  | nil => exact absurd hl (by simp [Wg.Tgs.len])
  | @cons v vs d ds h t =>
    refine ⟨v, vs, rfl, Z, S, ρ, .sh d, _, r, .inl h, hw, fun σ1 H1 S1 ρ1 e1 r1 wp q => ?_⟩
    refine ⟨Z, S1, ρ1, ds, Qt, r1, Reps.mono e1.s _ _ t, by simpa [Wg.Tgs.len] using hl, q, fun σ2 H2 S2 ρ2 e2 r2 wp2 q2 => k σ2 H2 S2 ρ2 (e1.trans e2) r2 (fun vs h => ?_) q2⟩
    have h : (tgIn vs _ && tgsIn vs _) = true := h
    simp only [Bool.and_eq_true] at h
    exact (wp2 vs h.2).trans (wp vs h.1)
theorem snd_tp {k : Nat} {ts : Tgs} (hc : X.calm = true) (hK : W.K = X.K) (h : PGs X xs (tTs W Φ ts)) (hp : xs.all plB = true) (hl : xs.length = ts.len) : PG X (.Tuple xs k pos) (tT W Φ (.tp ts)) := by
  refine PG.imp (pg_tup hc h (each_pl hp).1 (each_pl hp).2) fun v σ H Q ⟨Z, S, ρ, s, Qt, r, hv, hw, k⟩ => ?_
  unfold Wg.wT at hw
  split at hw
  · rename_i l es
    obtain ⟨hn, hw⟩ := hw
    have fin : ∀ {S' a ys}, Ext Z S H S' H → R W Z S' ρ σ H → v = .ref a → SqT W.K H a ys → Reps W S' H ys l → ∃ a xs_1, v = .ref a ∧ SqT X.K H a xs_1 ∧ xs_1.length = xs.length ∧ tTs W Φ ts xs_1 σ H Q := fun {S' a ys} e r' ev sq rs =>
      ⟨a, ys, ev, hK ▸ sq, by rw [rs.length, hn, hl], Z, S', ρ, l, Qt, r', rs, hn, hw, fun σ' H' S2 ρ' e2 r2 wp q => k σ' H' S2 ρ' (e.trans e2) r2 wp q⟩
    rcases hv with hv | ⟨_, a, ys, l', e, e2, sq, rs⟩
    · obtain ⟨S', e1, r', rv⟩ := fin_val r hv
      rw [es] at rv
      obtain ⟨a, ys, ev, sq, rs⟩ := Rep.tupv rv
      exact fin e1 r' ev sq rs
    · subst e
      have es : D.tup l' = D.tup l := es
      cases es
      exact fin .refl r e2 sq rs
  · exact hw.elim
theorem assign_pl {o i : Expr} (hp : plB i = true) : ∀ v, assign (.Subscript o i pos) X.env v = (do
      let ov ← holding [v] (eval o X.env)
      let iv ← holding [v, ov] (eval i X.env)
      standAt pos
      holding [v, ov, iv] (setItem ov iv v)
      release [v, ov, iv] []) := by
  intro v
  cases i <;> first | rfl | cases hp
/-- o[i] = v, of a list or a dict -/
def rSetLD : TSet := fun o i v G R => rSetL o i v G R ∨ ∃ d ks k, o = .ref d ∧ i = kV k ∧ G d = some (.dK ks) ∧ ks.length < sizeLine ∧ R (upd G d (.dK (putK ks k v)))
theorem set_ld (hu : X.A.units + 65 < cLine) : PSet X rSetLD := by
  intro pins s σ G o i v ov iv u R J ro ri rv h
  rcases h with h | ⟨d, ks, k, rfl, rfl, hd, few, go⟩
  · exact set_list pins s σ G o i v ov iv u R J ro ri rv h
  · cases (show ov = Value.ref d from ro)
    exact d_setItem (A := X.A) (by omega) J (DPut.k hd few) ri rv fun s2 J2 => ⟨_, J2, go⟩
/-- the item of a list of one's own -/
theorem setK_ok {Z S : AS} {ρ : Wg.Env} {σ : L2.St} {H : Hp} {k : Nat} {i d : D} {K : Wg.Env → Prop} {vi v : V} (r : R W Z S ρ σ H) (hi : Rep W S H vi i) (hd : Rep W S H v d) (h : Wg.setK ρ k i d K) {Q : Hp → Prop}
    (q : ∀ H' ρ', Ext Z S H S H' → R W Z S ρ' σ H' → K ρ' → Q H') : ∃ o, σ[k]? = some (some o) ∧ rSetLD o vi v H Q := by
  unfold Wg.setK at h
  split at h
  · rename_i l j el
    obtain ⟨a, ys, h1, h2, h3, h4⟩ := r.put el
    cases hi
    unfold Wg.setL at h
    split at h
    · rename_i n en
      obtain ⟨e3, r3⟩ := h4 (ys.set n v) (l.set n d) (Reps.set hd n h3)
      refine ⟨_, h1, .inl ⟨a, ys, j, n, rfl, rfl, h2, ?_, q _ _ e3 r3 h⟩⟩
      rw [← ixOf_eq, h3.length]
      exact en
    · exact h.elim
  · rename_i l el
    obtain ⟨a, ys, h1, h2, h3, h4⟩ := r.putD el
    obtain ⟨hz, hk, h⟩ := h
    obtain ⟨key, rfl⟩ := keysOk_key hk
    obtain ⟨e3, r3⟩ := h4 (putK ys key v) (Wg.putD l (keyD key) d) (h3.put hd)
    refine ⟨_, h1, .inr ⟨a, ys, key, rfl, hi.key, h2, ?_, q _ _ e3 r3 h⟩⟩
    rw [h3.length]
    have := LB_line
    omega
  · exact h.elim
theorem snd_sb (hu : X.A.units + 65 < cLine) {k : Nat} {i : Ex} (hv : PE X l (tVar k)) (hi : PE X r (tX W Φ i)) (hp : plB r = true) : PG X (.Subscript l r pos) (tT W Φ (.sb k i)) := by
  refine PG.imp (pg_sub hv hi (set_ld hu) (assign_pl hp)) fun v σ H Q ⟨Z, S, ρ, s, Qt, r, hv, hw, kk⟩ => ?_
  rcases hv with hv | ⟨⟨ts, e⟩, _⟩
  · unfold Wg.wT at hw
    obtain ⟨S1, e1, r1, rv⟩ := fin_val r hv
    obtain ⟨o, ho⟩ := r1.live hw.1
    refine ⟨o, ho, Z, S1, ρ, _, r1, hw.2, fun vi H2 S2 ρ2 si e2 r2 ri q => ?_⟩
    obtain ⟨S3, e3, r3, ri'⟩ := fin_val r2 ri
    obtain ⟨o', ho', h⟩ := setK_ok r3 ri' (Rep.mono (e2.trans e3).s _ _ rv) q (Q := fun H3 => Q σ H3) fun H' ρ' e4 r4 q4 => kk σ H' S3 ρ' (e1.trans (e2.trans (e3.trans e4))) r4 (fun _ _ => rfl) q4
    rw [ho] at ho'
    cases ho'
    exact h
  · cases e
/-! ### what is walked -/
def isZip : Wg.It → Prop
  | .zip _ => True
  | _ => False
/-- J walks the values of items -/
def Wk (W : Wd) (S : AS) (H : Hp) (J : L2.It) (items : List D) (p : Prop) : Prop := ∃ G Y, Walk J items.length G Y ∧ (∀ (S2 : AS) H2, (∀ a, S a → S2 a ∧ H2 a = H a) → G H2) ∧
  ∀ (S2 : AS) H2 i x H3, (∀ a, S a → S2 a ∧ H2 a = H a) → i < items.length → Y i H2 x H3 →
    (H3 = H2 ∧ ∃ d, items[i]? = some d ∧ Rep W S2 H2 x d) ∨ (p ∧ ∃ T v w d e, x = .ref T ∧ H2 T = none ∧ H3 = upd H2 T (.tup [v, w]) ∧ items[i]? = some (.tup [d, e]) ∧ Rep W S2 H2 v d ∧ Rep W S2 H2 w e)
/-- a dict that is walked is locked -/
def LkAt (ρ : Wg.Env) (i : Nat) (σ : L2.St) (H : Hp) : Prop := ∀ l, ρ[i]? = some (.sh (.dct l)) ∨ ρ[i]? = some (.od l) → ∃ d o kvs, ρ[i]? = some (.sh (.dct l)) ∧ σ[i]? = some (some (.ref d)) ∧ H d = some (.frz o (.dK kvs))
def lockP : Wg.It → Wg.Env → L2.St → Hp → Prop
  | .e (.var i), ρ, σ, H => LkAt ρ i σ H
  | _, _, _, _ => True
def tI (W : Wd) (Φ : Wg.Ctx) (it : Wg.It) : TI := fun σ H Q => ∃ Z S ρ, ∃ Qi : List D → Wg.Env → Prop, R W Z S ρ σ H ∧ lockP it ρ σ H ∧ Wg.wI Φ it ρ Qi ∧
  ∀ J H' S' ρ' items, Ext Z S H S' H' → R W Z S' ρ' σ H' → Wk W S' H' J items (isZip it) → items.length ≤ sizeLine → Qi items ρ' → Q J H'
/-- what holds in every state -/
theorem PE.inv {e : Expr} {t : TE} {F : Hp → Prop} (h : PE X e t) (f : ∀ pins σ H s, Inv X pins σ H s → F H) : PE X e (fun σ H Q => t σ H fun v H1 => F H1 → Q v H1) :=
  ⟨fun pins s σ H Q I q => thn (h.run pins s σ H _ I q) fun u s1 ⟨v, H1, I1, r1, q1⟩ => ⟨v, H1, I1, r1, q1 (f _ _ _ _ I1)⟩⟩
theorem PA.inv {e : List Expr} {t : TA} {F : Hp → Prop} (h : PA X e t) (f : ∀ pins σ H s, Inv X pins σ H s → F H) : PA X e (fun σ H Q => t σ H fun v H1 => F H1 → Q v H1) :=
  ⟨fun pos pins s σ H Q I q => thn (h.run pos pins s σ H _ I q) fun u s1 ⟨v, H1, I1, r1, q1⟩ => ⟨v, H1, I1, r1, q1 (f _ _ _ _ I1)⟩⟩
def Small (K : PySem.W.Frag) (H : Hp) : Prop := ∀ a xs, SqL K H a xs ∨ SqT K H a xs → xs.length ≤ sizeLine
theorem small_inv : ∀ pins σ H s, Inv X pins σ H s → Small X.K H := fun pins σ H s I a xs h => by
  rcases h with h | h
  · exact (I.list h).choose_spec.2.2
  · exact (I.tuple h).choose_spec.2.2
def iSeq (K : PySem.W.Frag) (tl : TE) : TI := fun σ H R => tl σ H fun x H1 => ∃ a, x = .ref a ∧ ((∃ xs, SqL K H1 a xs ∧ R (Itl K a) H1) ∨ (∃ xs, SqT K H1 a xs ∧ R (Itt K a) H1))
theorem pi_seq {tg l : Expr} {tl : TE} (hl : PE X l tl) : PI X tg l (iSeq X.K tl) := by
  refine ⟨fun pins s σ H R I h => ?_⟩
  refine thn (hl.run pins s σ H _ I h) fun v s1 ⟨x, H1, I1, r1, q1⟩ => ?_
  obtain ⟨a, e, q1⟩ := q1
  subst e
  cases r1
  rcases q1 with ⟨xs, hq, q⟩ | ⟨xs, hq, q⟩
  · obtain ⟨its, rv, p, hz⟩ := I1.list hq
    refine wpAny_pyIter_list p.isList ?_
    refine ⟨s1.heap.objs.size, [s1.heap.objs.size], _, _, H1, rfl, I1.kept (t' := s1.toks) fun b o e => Heap.get?_push_of_some _ e, turn_list a _, ⟨_, Heap.get?_push_size _ rfl, rfl, rfl⟩, fun b hb => ?_, q⟩
    have e : b = s1.heap.objs.size := by simpa using hb
    subst e
    exact I1.fpOk (Nat.le_refl _) (I1.hok.fresh (Nat.le_refl _))
  · obtain ⟨its, rv, p, hz⟩ := I1.tuple hq
    refine wpAny_pyIter_tuple (show s1.heap.IsTuple a its.toArray from p) ?_
    refine ⟨s1.heap.objs.size, [s1.heap.objs.size], _, _, H1, rfl, I1.kept (t' := s1.toks) fun b o e => Heap.get?_push_of_some _ e, turn_tuple a _, ⟨_, Heap.get?_push_size _ rfl, rfl, rfl⟩, fun b hb => ?_, q⟩
    have e : b = s1.heap.objs.size := by simpa using hb
    subst e
    exact I1.fpOk (Nat.le_refl _) (I1.hok.fresh (Nat.le_refl _))
/-- a tuple's place in the heap -/
theorem tup_at {S : AS} {H : Hp} {v : V} {l : List D} (h : Rep W S H v (.tup l)) : ∃ a xs, v = .ref a ∧ Reps W S H xs l ∧ SqT W.K H a xs ∧ ∀ (S2 : AS) H2, (∀ a, S a → S2 a ∧ H2 a = H a) → SqT W.K H2 a xs ∧ Reps W S2 H2 xs l := by
  cases h with
  | tup hs ha hd hr => exact ⟨_, _, rfl, hr, .inl (.inr ⟨_, ha⟩), fun S2 H2 k => ⟨.inl (.inr ⟨_, (k _ hs).2.trans ha⟩), Reps.mono k _ _ hr⟩⟩
  | ktup hk hr =>
    have q : ∀ H2, SqT W.K H2 _ _ := fun H2 => .inr (let ⟨o, its, n, h1, h2, _, h3⟩ := hk; ⟨o, its, n, h1, h2, h3⟩)
    exact ⟨_, _, rfl, hr, q H, fun S2 H2 k => ⟨q H2, Reps.mono k _ _ hr⟩⟩
theorem lst_at {S : AS} {H : Hp} {v : V} {l : List D} (h : Rep W S H v (.lst l)) : ∃ a xs, v = .ref a ∧ Reps W S H xs l ∧ SqL W.K H a xs ∧ ∀ (S2 : AS) H2, (∀ a, S a → S2 a ∧ H2 a = H a) → SqL W.K H2 a xs ∧ Reps W S2 H2 xs l := by
  cases h with
  | lst hs ha hr => exact ⟨_, _, rfl, hr, SqL.of ha, fun S2 H2 k => ⟨SqL.of ((k _ hs).2.trans ha), Reps.mono k _ _ hr⟩⟩
theorem wk_seq {S : AS} {H : Hp} {J : L2.It} {xs : List V} {l : List D} {p : Prop} {G : Hp → Prop} (w : Walk J xs.length G (YAt xs)) (hr : Reps W S H xs l) (g : ∀ (S2 : AS) H2, (∀ a, S a → S2 a ∧ H2 a = H a) → G H2 ∧ Reps W S2 H2 xs l) : Wk W S H J l p := by
  refine ⟨G, YAt xs, hr.length ▸ w, fun S2 H2 k => (g S2 H2 k).1, fun S2 H2 i x H3 k hi y => .inl ⟨y.1, ?_⟩⟩
  exact (g S2 H2 k).2.get' y.2
theorem dct_at {S : AS} {H : Hp} {v : V} {l : List (D × D)} (h : Rep W S H v (.dct l)) : ∃ a kvs, v = .ref a ∧ S a ∧ Rd H a (.dK kvs) ∧ RepKs W S H kvs l := by
  cases h with
  | dct hs ha hr => exact ⟨_, _, rfl, hs, ha, hr⟩
/-- what is walked: a list, a tuple, a locked dict -/
def iAny (K : PySem.W.Frag) (tl : TE) : TI := fun σ H R => tl σ H fun x H1 => ∃ a, x = .ref a ∧ ((∃ xs, SqL K H1 a xs ∧ R (Itl K a) H1) ∨ (∃ xs, SqT K H1 a xs ∧ R (Itt K a) H1) ∨ ∃ o kvs, H1 a = some (.frz o (.dK kvs)) ∧ (kvs.length ≤ sizeLine → R (Itk a o kvs) H1))
theorem pi_any {tg l : Expr} {tl : TE} (hl : PE X l tl) : PI X tg l (iAny X.K tl) := by
  refine ⟨fun pins s σ H R I h => ?_⟩
  refine thn (hl.run pins s σ H _ I h) fun v s1 ⟨x, H1, I1, r1, q1⟩ => ?_
  obtain ⟨a, e, q1⟩ := q1
  subst e
  cases r1
  rcases q1 with ⟨xs, hq, q⟩ | ⟨xs, hq, q⟩ | ⟨o, kvs, hd, q⟩
  · obtain ⟨its, rv, p, hz⟩ := I1.list hq
    refine wpAny_pyIter_list p.isList ?_
    refine ⟨s1.heap.objs.size, [s1.heap.objs.size], _, _, H1, rfl, I1.kept (t' := s1.toks) fun b o e => Heap.get?_push_of_some _ e, turn_list a _, ⟨_, Heap.get?_push_size _ rfl, rfl, rfl⟩, fun b hb => ?_, q⟩
    have e : b = s1.heap.objs.size := by simpa using hb
    subst e
    exact I1.fpOk (Nat.le_refl _) (I1.hok.fresh (Nat.le_refl _))
  · obtain ⟨its, rv, p, hz⟩ := I1.tuple hq
    refine wpAny_pyIter_tuple (show s1.heap.IsTuple a its.toArray from p) ?_
    refine ⟨s1.heap.objs.size, [s1.heap.objs.size], _, _, H1, rfl, I1.kept (t' := s1.toks) fun b o e => Heap.get?_push_of_some _ e, turn_tuple a _, ⟨_, Heap.get?_push_size _ rfl, rfl, rfl⟩, fun b hb => ?_, q⟩
    have e : b = s1.heap.objs.size := by simpa using hb
    subst e
    exact I1.fpOk (Nat.le_refl _) (I1.hok.fresh (Nat.le_refl _))
  · obtain ⟨low, at1, exact1, es, ep, ws, data1, size1, rel, isd⟩ := I1.frzK hd
    have few : kvs.length ≤ sizeLine := (dk_rd I1.hok (.inr ⟨o, hd⟩)).1
    refine iter_keys low at1 exact1 data1 (pi_one (tk := s1.toks) I1 _ (turn_keys s1.heap.objs.size data1) ⟨_, Heap.get?_push_size _ rfl, rfl, ?_⟩ (q few))
    rw [size1] <;> rfl
theorem wk_keys {S : AS} {H : Hp} {d : Addr} {o : Obj} {kvs : List (Key × V)} {l : List (D × D)} {p : Prop} (hs : S d) (hd : H d = some (.frz o (.dK kvs))) (hr : RepKs W S H kvs l) : Wk W S H (Itk d o kvs) (l.map (·.1)) p := by
  have hl : kvs.length = (l.map (·.1)).length := by rw [List.length_map, hr.length]
  refine ⟨fun G => G d = some (.frz o (.dK kvs)), _, hl ▸ walk_keys, fun S2 H2 k => (k d hs).2.trans hd, fun S2 H2 i x H3 k hi y => .inl ⟨y.1, ?_⟩⟩
  obtain ⟨key, v, e, rfl⟩ := y.2
  have g : (kvs.map fun kv => kV kv.1)[i]? = some (kV key) := by rw [List.getElem?_map, e]; rfl
  exact (RepKs.keys (RepKs.mono k hr)).get' g
theorem snd_Ie {tg : Expr} {e : Ex} (hK : W.K = X.K) (h : PE X l (tX W Φ e)) (hv : ∀ i, e = .var i → PE X l (tVar i)) : PI X tg l (tI W Φ (.e e)) := by
  have seq : ∀ {Z S : AS} {ρ1 : Wg.Env} {H1 : Hp} {σ : L2.St} {Q : L2.It → Hp → Prop} {Qi : List D → Wg.Env → Prop} {v : V} {d : D} {b : Bool}, R W Z S ρ1 σ H1 → Rep W S H1 v d → (∀ l, d ≠ .dct l) → Small X.K H1 → Wg.itemsV b d (fun l => Qi l ρ1) →
      (∀ J items, Wk W S H1 J items False → items.length ≤ sizeLine → Qi items ρ1 → Q J H1) → ∃ a, v = .ref a ∧ ((∃ xs, SqL X.K H1 a xs ∧ Q (Itl X.K a) H1) ∨ (∃ xs, SqT X.K H1 a xs ∧ Q (Itt X.K a) H1) ∨ ∃ o kvs, H1 a = some (.frz o (.dK kvs)) ∧ (kvs.length ≤ sizeLine → Q (Itk a o kvs) H1)) := by
    intro Z S ρ1 H1 σ Q Qi v d b r rv nd sm q k
    unfold Wg.itemsV at q
    split at q
    · rename_i l
      obtain ⟨a, xs, rfl, hr, sq, st⟩ := tup_at rv
      refine ⟨a, rfl, .inr (.inl ⟨xs, hK ▸ sq, k _ l (wk_seq (hK ▸ walk_tup) hr st) ?_ q⟩)⟩
      rw [← hr.length]
      exact sm a xs (.inr (hK ▸ sq))
    · rename_i l
      obtain ⟨a, xs, rfl, hr, sq, st⟩ := lst_at rv
      refine ⟨a, rfl, .inl ⟨xs, hK ▸ sq, k _ l (wk_seq (hK ▸ walk_list) hr st) ?_ q⟩⟩
      rw [← hr.length]
      exact sm a xs (.inl (hK ▸ sq))
    · rename_i l
      exact (nd l rfl).elim
    · exact q.elim
  cases ev : e.isVar with
  | false =>
    refine PI.imp (pi_any (PE.inv h small_inv)) fun σ H Q ⟨Z, S, ρ, Qi, r, lk, hw, k⟩ => ?_
    unfold Wg.wI at hw
    rw [ev] at hw
    refine ⟨Z, S, ρ, _, r, hw, fun v H1 S1 ρ1 s e1 r1 rv q sm => ?_⟩
    obtain ⟨S2, e2, r2, rv2⟩ := fin_val r1 rv
    refine seq r2 rv2 (fun l z => ?_) sm q fun J items wk hl q2 => k J H1 S2 ρ1 items (e1.trans e2) r2 wk hl q2
    rw [z] at q
    cases q.1
  | true =>
    cases e with
    | var i =>
      refine PI.imp (pi_any (PE.inv (hv i rfl) small_inv)) fun σ H Q ⟨Z, S, ρ, Qi, r, lk, hw, k⟩ => ?_
      have lk : LkAt ρ i σ H := lk
      have hw : Wg.varX ρ i fun s ρ1 => Wg.itemsV true s.val fun l => Qi l ρ1 := hw
      unfold Wg.varX at hw
      split at hw
      · rename_i d es
        obtain ⟨v, ev, rv⟩ := r.sh i _ es
        refine ⟨v, ev, fun sm => ?_⟩
        cases d with
        | dct m =>
          have hw : true = true ∧ Qi (m.map (·.1)) ρ := hw
          obtain ⟨_, hw⟩ := hw
          obtain ⟨a, o, kvs, _, eσ, eH⟩ := lk m (.inl es)
          rw [ev] at eσ
          cases eσ
          obtain ⟨a2, ks, ea, sa, ra, hr⟩ := dct_at rv
          cases ea
          have ek : ks = kvs := by
            rcases ra with q | ⟨o2, q⟩ <;> rw [eH] at q <;> cases q
            rfl
          subst ek
          exact ⟨a, rfl, .inr (.inr ⟨o, ks, eH, fun few => k _ H S ρ _ .refl r (wk_keys sa eH hr) (by rw [List.length_map, ← hr.length]; exact few) hw⟩)⟩
        | _ => exact seq r rv (fun l z => nomatch z) sm hw fun J items wk hl q2 => k J H S ρ items .refl r wk hl q2
      · rename_i m es
        obtain ⟨p, h1, h2, h3, h4⟩ := r.freeze es
        refine ⟨_, h1, fun sm => ?_⟩
        exact seq h3 h4 (fun l z => nomatch z) sm hw fun J items wk hl q2 => k J H _ _ items h2 h3 wk hl q2
      · rename_i m es
        obtain ⟨d, o, kvs, e1, _⟩ := lk m (.inr es)
        rw [es] at e1
        cases e1
      · exact hw.elim
    | _ => cases ev
theorem rangeD_len (lo hi : Int) : (Wg.rangeD lo hi).length = (hi - lo).toNat := by simp [Wg.rangeD]
theorem wk_range {S : AS} {H : Hp} {lo hi : Int} {n : Nat} {p : Prop} (hn : n = (hi - lo).toNat) : Wk W S H (Itr lo n) (Wg.rangeD lo hi) p := by
  subst hn
  refine ⟨fun _ => True, YFn fun i => .int (lo + i), by rw [rangeD_len]; exact walk_range, fun _ _ _ => trivial, fun S2 H2 i x H3 k hl y => .inl ⟨y.1, .int (lo + i), ?_, by rw [y.2]; exact .int _⟩⟩
  rw [rangeD_len] at hl
  simp [Wg.rangeD, hl]
theorem RepTs.int1 {S : AS} {H : Hp} {vs : List V} {j : Int} (h : RepTs W S H vs [.int j]) : vs = [.int j] := by
  cases h with
  | cons h t => cases t; rw [h.int]
theorem RepTs.int2 {S : AS} {H : Hp} {vs : List V} {i j : Int} (h : RepTs W S H vs [.int i, .int j]) : vs = [.int i, .int j] := by
  cases h with
  | cons h t => cases t with | cons h2 t => cases t; rw [h.int, h2.int]
theorem wOs_len1 {e : Expr} {vs : List V} {es : Exs} (hl : ([e] : List Expr).length = es.len) (h : vs.length = es.len) : vs.length = 1 := by rw [h, ← hl]; rfl
theorem RepTs.length {S : AS} {H : Hp} : ∀ {vs : List V} {ds : List D}, RepTs W S H vs ds → vs.length = ds.length
  | _, _, .nil => rfl
  | _, _, .cons _ t => congrArg (· + 1) (RepTs.length t)
theorem snd_Ir1 {tg e : Expr} (g : Good T W Φ N X) (hg : Gl X "range") (h : PA X [e] (tOs W Φ es)) (hl : es.len = 1) (hp : plB e = true) : PI X tg (.Call (.Name "range" np) [e] [] pos) (tI W Φ (.range es)) := by
  refine PI.imp (pi_range1 hg g.rng h (star_pl hp)) fun σ H Q ⟨Z, S, ρ, Qi, r, _, hw, k⟩ => ?_
  unfold Wg.wI at hw
  refine ⟨Z, S, ρ, _, r, hw, fun vs H1 S1 ρ1 os e1 r1 rs hn q => ?_⟩
  obtain ⟨ds, q, rd⟩ := RepOs.get r1 rs q
  have hlen := rd.length
  rw [hn, hl] at hlen
  unfold Wg.rngV at q
  split at q
  · rename_i j
    refine ⟨j, rd.int1, by have := q.2.1; omega, by have := q.1; unfold LB at this; omega, k _ H1 S1 ρ1 _ e1 r1 (wk_range (by simp)) ?_ q.2.2⟩
    rw [rangeD_len, sizeLine_eq]
    have := q.1
    unfold LB at this
    omega
  · cases hlen
  · cases hlen
  · exact q.elim
theorem snd_Ir2 {tg e e2 : Expr} (g : Good T W Φ N X) (hg : Gl X "range") (h : PA X [e, e2] (tOs W Φ es)) (hl : es.len = 2) (hp : plB e = true) (hp2 : plB e2 = true) : PI X tg (.Call (.Name "range" np) [e, e2] [] pos) (tI W Φ (.range es)) := by
  refine PI.imp (pi_range2 hg g.rng h (by rw [star_pl hp, star_pl hp2]; rfl) (by rw [star_pl hp2]; rfl)) fun σ H Q ⟨Z, S, ρ, Qi, r, _, hw, k⟩ => ?_
  unfold Wg.wI at hw
  refine ⟨Z, S, ρ, _, r, hw, fun vs H1 S1 ρ1 os e1 r1 rs hn q => ?_⟩
  obtain ⟨ds, q, rd⟩ := RepOs.get r1 rs q
  have hlen := rd.length
  rw [hn, hl] at hlen
  unfold Wg.rngV at q
  split at q
  · cases hlen
  · rename_i i j
    obtain ⟨q1, q2, q3, q4, q5⟩ := q
    unfold LB at q1 q3
    refine ⟨i, j, rd.int2, ⟨by omega, by omega, by omega, by omega⟩, k _ H1 S1 ρ1 _ e1 r1 (wk_range rfl) ?_ q5⟩
    rw [rangeD_len, sizeLine_eq]
    omega
  · cases hlen
  · exact q.elim
theorem rangeS_len (i j c : Int) : (Wg.rangeS i j c).length = Wg.rangeZ i j c := by simp [Wg.rangeS]
theorem wk_rangeC {S : AS} {H : Hp} {lo hi c : Int} {p : Prop} : Wk W S H (Itc lo c (Wg.rangeZ lo hi c)) (Wg.rangeS lo hi c) p := by
  refine ⟨fun _ => True, YFn fun i => .int (lo + (i : Nat) * c), by rw [rangeS_len]; exact walk_rangeC, fun _ _ _ => trivial, fun S2 H2 i x H3 k hl y => .inl ⟨y.1, .int (lo + (i : Nat) * c), ?_, by rw [y.2]; exact .int _⟩⟩
  rw [rangeS_len] at hl
  simp [Wg.rangeS, hl]
theorem RepTs.int3 {S : AS} {H : Hp} {vs : List V} {i j c : Int} (h : RepTs W S H vs [.int i, .int j, .int c]) : vs = [.int i, .int j, .int c] := by
  cases h with
  | cons h t => cases t with | cons h2 t => cases t with | cons h3 t => cases t; rw [h.int, h2.int, h3.int]
theorem rangeZ_le {i j c : Int} (hc : 0 < c) : ((Wg.rangeZ i j c : Nat) : Int) ≤ (j - i).toNat := by
  unfold Wg.rangeZ
  split
  · have h1 := Int.ediv_le_self c (show (0 : Int) ≤ j - i - 1 by omega)
    have h2 := Int.ediv_nonneg (a := j - i - 1) (b := c) (by omega) (by omega)
    omega
  · omega
theorem rangeZ_size {i j c : Int} (hc : 0 < c) : Builtin.Range.rangeSize i j c = ((Wg.rangeZ i j c : Nat) : Int) := by
  unfold Builtin.Range.rangeSize Wg.rangeZ
  rw [if_pos hc]
  split
  · have h2 := Int.ediv_nonneg (a := j - i - 1) (b := c) (by omega) (by omega)
    omega
  · rfl
theorem rangeZ_RgC {i j c : Int} (hc : 0 < c) (hc2 : c ≤ 1000000) (h1 : -1000000 ≤ i) (h2 : i ≤ 1000000) (h3 : -1000000 ≤ j) (h4 : j ≤ 1000000) : RgC i j c (Wg.rangeZ i j c) := by
  refine ⟨by omega, by omega, ?_, rangeZ_size hc⟩
  have hz := rangeZ_le (i := i) (j := j) hc
  unfold Builtin.Range.small
  rw [rangeZ_size hc]
  simp only [Builtin.Range.rangeFitsLong, Bool.and_eq_true, Bool.or_eq_true, decide_eq_true_eq, beq_iff_eq, if_pos hc]
  refine ⟨?_, ?_⟩ <;> omega
theorem snd_Ir3 {tg e e2 e3 : Expr} (g : Good T W Φ N X) (hg : Gl X "range") (h : PA X [e, e2, e3] (tOs W Φ es)) (hl : es.len = 3) (hp : plB e = true) (hp2 : plB e2 = true) (hp3 : plB e3 = true) : PI X tg (.Call (.Name "range" np) [e, e2, e3] [] pos) (tI W Φ (.range es)) := by
  refine PI.imp (pi_range3 hg g.rng h (by rw [star_pl hp]) (by rw [star_pl hp2, star_pl hp3]; rfl)) fun σ H Q ⟨Z, S, ρ, Qi, r, _, hw, k⟩ => ?_
  unfold Wg.wI at hw
  refine ⟨Z, S, ρ, _, r, hw, fun vs H1 S1 ρ1 os e1 r1 rs hn q => ?_⟩
  obtain ⟨ds, q, rd⟩ := RepOs.get r1 rs q
  have hlen := rd.length
  rw [hn, hl] at hlen
  unfold Wg.rngV at q
  split at q
  · cases hlen
  · cases hlen
  · rename_i i j c
    obtain ⟨⟨q0, q0b⟩, q1, q2, q3, q4, q5⟩ := q
    unfold LB at q1 q3 q0b
    have hz := rangeZ_le (i := i) (j := j) q0
    refine ⟨i, j, c, _, rd.int3, rangeZ_RgC q0 (by omega) q2 (by omega) q4 (by omega), k _ H1 S1 ρ1 _ e1 r1 wk_rangeC ?_ q5⟩
    rw [rangeS_len, sizeLine_eq]
    omega
  · exact q.elim
/-! ### zip -/
theorem zipW_at {xs ys : List D} {i : Nat} (h : i < (List.zipWith (fun a b => D.tup [a, b]) xs ys).length) : ∃ d e, xs[i]? = some d ∧ ys[i]? = some e ∧ (List.zipWith (fun a b => D.tup [a, b]) xs ys)[i]? = some (.tup [d, e]) := by
  have h1 : i < xs.length := by simp at h; omega
  have h2 : i < ys.length := by simp at h; omega
  exact ⟨xs[i], ys[i], by simp [h1], by simp [h2], by simp [List.getElem?_zipWith, h1, h2]⟩
theorem wk_zip {S : AS} {H : Hp} {J : L2.It} {xs ys : List V} {l m : List D} {p : Prop} {G : Hp → Prop} (hp : p) (w : Walk J (min xs.length ys.length) G (YPair (fun i => xs[i]?) (fun i => ys[i]?))) (hx : Reps W S H xs l) (hy : Reps W S H ys m)
    (g : ∀ (S2 : AS) H2, (∀ a, S a → S2 a ∧ H2 a = H a) → G H2 ∧ Reps W S2 H2 xs l ∧ Reps W S2 H2 ys m) : Wk W S H J (List.zipWith (fun a b => .tup [a, b]) l m) p := by
  refine ⟨G, YPair (fun i => xs[i]?) (fun i => ys[i]?), ?_, fun S2 H2 k => (g S2 H2 k).1, fun S2 H2 i x H3 k hi y => .inr ⟨hp, ?_⟩⟩
  · rw [List.length_zipWith, ← hx.length, ← hy.length]; exact w
  · obtain ⟨T, v, w', h1, h2, h3, h4, h5⟩ := y
    obtain ⟨_, gx, gy⟩ := g S2 H2 k
    obtain ⟨d, e, e1, e2, e3⟩ := zipW_at hi
    obtain ⟨d', q1, q2⟩ := gx.get' h4
    obtain ⟨e', q3, q4⟩ := gy.get' h5
    rw [e1] at q1; cases q1
    rw [e2] at q3; cases q3
    exact ⟨T, v, w', d, e, h1, h2, h3, e3, q2, q4⟩
theorem walk_zipT {K : PySem.W.Frag} {a b : Addr} {xs ys : List V} : Walk (ItzT K a b) (min xs.length ys.length) (fun H => SqT K H a xs ∧ SqT K H b ys) (YPair (fun i => xs[i]?) (fun i => ys[i]?)) := by
  refine ⟨fun i _ hi q => ?_, fun _ q => ⟨xs, ys, q.1, q.2, by omega⟩, fun i H v H' _ q y => ?_⟩
  · have h1 : i < xs.length := by omega
    have h2 : i < ys.length := by omega
    exact ⟨xs, ys, xs[i], ys[i], q.1, q.2, by simp [h1], by simp [h2]⟩
  · obtain ⟨T, x, z, h1, h2, h3, h4, h5⟩ := y
    exact ⟨T, x, z, h1, h2, h3, h4 xs q.1, h5 ys q.2⟩
theorem walk_zipM {K : PySem.W.Frag} {a b : Addr} {xs ys : List V} : Walk (ItzM K a b) (min xs.length ys.length) (fun H => SqT K H a xs ∧ SqL K H b ys) (YPair (fun i => xs[i]?) (fun i => ys[i]?)) := by
  refine ⟨fun i _ hi q => ?_, fun _ q => ⟨xs, ys, q.1, q.2, by omega, by omega, by omega⟩, fun i H v H' _ q y => ?_⟩
  · have h1 : i < xs.length := by omega
    have h2 : i < ys.length := by omega
    exact ⟨xs, ys, xs[i], ys[i], q.1, q.2, by simp [h1], by simp [h2]⟩
  · obtain ⟨T, x, z, h1, h2, h3, h4, h5⟩ := y
    exact ⟨T, x, z, h1, h2, h3, h4 xs q.1, h5 ys q.2⟩
theorem RepOs.getF {Z S : AS} {ρ : Wg.Env} {σ : L2.St} {H : Hp} {vs : List V} {os : List Opd} {K : List D → Prop} (r : R W Z S ρ σ H) (rs : RepOs W S σ H vs os) (g : Wg.gets ρ os K) : ∃ S2 ds, Ext Z S H S2 H ∧ R W Z S2 (Wg.freezes ρ os) σ H ∧ K ds ∧ Reps W S2 H vs ds := by
  obtain ⟨S2, e2, r2, ho⟩ := R.freezes os r
  obtain ⟨ds, q, rd⟩ := RepOs.getS (S' := S2) r rs (fun a h => (e2.s a h).1) ho g
  exact ⟨S2, ds, e2, r2, q, rd⟩
theorem snd_Iz {e e2 : Expr} {elts : List Expr} {kk : Nat} {tpos : Pos} (g : Good T W Φ N X) (hg : Gl X "zip") (h : PA X [e, e2] (tOs W Φ es)) (hp : plB e = true) (hp2 : plB e2 = true) : PI X (.Tuple elts kk tpos) (.Call (.Name "zip" np) [e, e2] [] pos) (tI W Φ (.zip es)) := by
  have hpl : (backTo pos (starEach [e2] X.env)).any (·.1) = false := (plAll_star (by simp [hp2]) pos).2
  refine PI.imp (pi_zip3 hg g.zp (PA.inv h small_inv) (star_pl hp) hpl) fun σ H Q ⟨Z, S, ρ, Qi, r, _, hw, k⟩ => ?_
  unfold Wg.wI at hw
  refine ⟨Z, S, ρ, _, r, hw, fun vs H1 S1 ρ1 os e1 r1 rs hn q sm => ?_⟩
  obtain ⟨S2, ds, e2, r2, q, rd⟩ := RepOs.getF r1 rs q
  split at q
  · rename_i l m
    cases rd with
    | cons h1 t =>
      cases t with
      | cons h2 t =>
        cases t
        obtain ⟨a, xs, rfl, hr1, sq1, st1⟩ := tup_at h1
        obtain ⟨b, ys, rfl, hr2, sq2, st2⟩ := tup_at h2
        refine ⟨a, b, xs, ys, rfl, .inr (.inl ⟨g.hK ▸ sq1, g.hK ▸ sq2, k _ H1 S2 _ _ (e1.trans e2) r2 (wk_zip (G := fun H => SqT X.K H a xs ∧ SqT X.K H b ys) trivial walk_zipT hr1 hr2 fun S3 H3 kk => ⟨⟨g.hK ▸ (st1 S3 H3 kk).1, g.hK ▸ (st2 S3 H3 kk).1⟩, (st1 S3 H3 kk).2, (st2 S3 H3 kk).2⟩) ?_ q⟩)⟩
        rw [List.length_zipWith, ← hr1.length]
        have := sm a xs (.inr (g.hK ▸ sq1))
        omega
  · rename_i l m
    cases rd with
    | cons h1 t =>
      cases t with
      | cons h2 t =>
        cases t
        obtain ⟨a, xs, rfl, hr1, sq1, st1⟩ := lst_at h1
        obtain ⟨b, ys, rfl, hr2, sq2, st2⟩ := lst_at h2
        refine ⟨a, b, xs, ys, rfl, .inl ⟨g.hK ▸ sq1, g.hK ▸ sq2, k _ H1 S2 _ _ (e1.trans e2) r2 (wk_zip (G := fun H => SqL X.K H a xs ∧ SqL X.K H b ys) trivial (walk_zip rfl) hr1 hr2 fun S3 H3 kk => ⟨⟨g.hK ▸ (st1 S3 H3 kk).1, g.hK ▸ (st2 S3 H3 kk).1⟩, (st1 S3 H3 kk).2, (st2 S3 H3 kk).2⟩) ?_ q⟩⟩
        rw [List.length_zipWith, ← hr1.length]
        have := sm a xs (.inl (g.hK ▸ sq1))
        omega
  · rename_i l m
    cases rd with
    | cons h1 t =>
      cases t with
      | cons h2 t =>
        cases t
        obtain ⟨a, xs, rfl, hr1, sq1, st1⟩ := tup_at h1
        obtain ⟨b, ys, rfl, hr2, sq2, st2⟩ := lst_at h2
        refine ⟨a, b, xs, ys, rfl, .inr (.inr ⟨g.hK ▸ sq1, g.hK ▸ sq2, k _ H1 S2 _ _ (e1.trans e2) r2 (wk_zip (G := fun H => SqT X.K H a xs ∧ SqL X.K H b ys) trivial walk_zipM hr1 hr2 fun S3 H3 kk => ⟨⟨g.hK ▸ (st1 S3 H3 kk).1, g.hK ▸ (st2 S3 H3 kk).1⟩, (st1 S3 H3 kk).2, (st2 S3 H3 kk).2⟩) ?_ q⟩)⟩
        rw [List.length_zipWith, ← hr1.length]
        have := sm a xs (.inr (g.hK ▸ sq1))
        omega
  · exact q.elim
end
end WgS
set_option Elab.async false
set_option linter.all false
set_option maxRecDepth 100000
set_option maxHeartbeats 1000000
/-! WgS: comprehensions. -/
namespace WgS
open PySem PySem.Spec PyProof.Rows L2
open Wg (D Slot Opd Ex Exs Tg Tgs Kvs Sts BOp COp Blt Mth LB)
section
variable {W : Wd} {Z S S' : AS} {ρ ρ' ρ1 ρ2 : Wg.Env} {σ : L2.St} {H H' : Hp} {v : V} {p : Addr}
theorem R.clr {i : Nat} (hk : W.keep i = none) (r : R W Z S ρ σ H) : R W Z S (ρ.set i .un) (σ.set i none) H := by
  have hl := r.len
  have get : ∀ (j : Nat) (t : Slot), t ≠ .un → (ρ.set i .un)[j]? = some t → j ≠ i ∧ ρ[j]? = some t := fun j t ht e => by
    by_cases c : j = i
    · subst c
      rw [List.getElem?_set_self'] at e
      cases q : ρ[j]? with
      | none => rw [q] at e; cases e
      | some x => rw [q] at e; cases e; exact (ht rfl).elim
    · rw [List.getElem?_set_ne (Ne.symm c)] at e
      exact ⟨c, e⟩
  have own : ∀ j : Nat, isOwn (ρ.set i Slot.un)[j]? → j ≠ i ∧ isOwn ρ[j]? := fun j o => by
    cases q : (ρ.set i Slot.un)[j]? with
    | none => rw [q] at o; exact o.elim
    | some t =>
      rw [q] at o
      have ht : t ≠ .un := fun z => by subst z; exact o.elim
      obtain ⟨h1, h2⟩ := get j t ht q
      exact ⟨h1, by rw [h2]; exact o⟩
  refine ⟨by simp [hl], fun j v e => by rw [List.getElem?_set_ne (fun q => by rw [← q, hk] at e; cases e)]; exact r.keep j v e, fun j d e => ?_, fun j l e => ?_, fun j l e => ?_, fun j k a h1 h2 e1 e2 => ?_, r.trk, r.dz, r.pool⟩
  · obtain ⟨h1, h2⟩ := get j _ (by simp) e
    obtain ⟨w, g1, g2⟩ := r.sh j d h2
    exact ⟨w, by rw [List.getElem?_set_ne (Ne.symm h1)]; exact g1, g2⟩
  · obtain ⟨h1, h2⟩ := get j _ (by simp) e
    obtain ⟨a, xs, g1, g2⟩ := r.ol j l h2
    exact ⟨a, xs, by rw [List.getElem?_set_ne (Ne.symm h1)]; exact g1, g2⟩
  · obtain ⟨h1, h2⟩ := get j _ (by simp) e
    obtain ⟨a, xs, g1, g2⟩ := r.od j l h2
    exact ⟨a, xs, by rw [List.getElem?_set_ne (Ne.symm h1)]; exact g1, g2⟩
  · obtain ⟨n1, o1⟩ := own j h1
    obtain ⟨n2, o2⟩ := own k h2
    rw [List.getElem?_set_ne (Ne.symm n1)] at e1
    rw [List.getElem?_set_ne (Ne.symm n2)] at e2
    exact r.dis j k a o1 o2 e1 e2
theorem R.wipe : ∀ (own : List Nat), (∀ i ∈ own, W.keep i = none) → R W Z S ρ σ H → R W Z S (Wg.wipeE ρ own) (L2.wipe σ own) H
  | [], _, r => r
  | i :: is, h, r => (R.wipe is (fun j hj => h j (List.mem_cons_of_mem _ hj)) r).clr (h i List.mem_cons_self)
theorem freeze_own {i j : Nat} (h : isOwn (Wg.freeze ρ i)[j]?) : j ≠ i ∧ isOwn ρ[j]? := by
  unfold Wg.freeze at h
  split at h
  · rename_i l e
    by_cases c : j = i
    · subst c
      rw [List.getElem?_set_self'] at h
      rw [e] at h
      exact h.elim
    · rw [List.getElem?_set_ne (Ne.symm c)] at h
      exact ⟨c, h⟩
  · rename_i l e
    by_cases c : j = i
    · subst c
      rw [List.getElem?_set_self'] at h
      rw [e] at h
      exact h.elim
    · rw [List.getElem?_set_ne (Ne.symm c)] at h
      exact ⟨c, h⟩
  · rename_i n1 n2
    refine ⟨fun c => ?_, h⟩
    subst c
    unfold isOwn at h
    split at h
    · rename_i l e; exact n1 l e
    · rename_i l e; exact n2 l e
    · exact h
theorem R.freeze1 {i : Nat} (r : R W Z S ρ σ H) : ∃ S2, Ext Z S H S2 H ∧ R W Z S2 (Wg.freeze ρ i) σ H := by
  obtain ⟨S2, e, r2, _⟩ := R.freezes [.r i] r
  exact ⟨S2, e, r2⟩
theorem R.freezeI : ∀ (own : List Nat), R W Z S ρ σ H → ∃ S2, Ext Z S H S2 H ∧ R W Z S2 (Wg.freezeI ρ own) σ H ∧ ∀ i ∈ own, ¬ isOwn (Wg.freezeI ρ own)[i]?
  | [], r => ⟨S, .refl, r, fun i h => nomatch h⟩
  | i :: is, r => by
    obtain ⟨S1, e1, r1, n1⟩ := R.freezeI is r
    obtain ⟨S2, e2, r2⟩ := r1.freeze1 (i := i)
    refine ⟨S2, e1.trans e2, r2, fun j hj o => ?_⟩
    obtain ⟨h1, h2⟩ := freeze_own (show isOwn (Wg.freeze (Wg.freezeI ρ is) i)[j]? from o)
    rcases List.mem_cons.mp hj with q | q
    · exact h1 q
    · exact n1 j q h2
/-- an address is kept as it is -/
theorem R.guard (r : R W Z S ρ σ H) (hs : Own W Z S p) (hn : NoOwn ρ σ p) (ht : H p ≠ none) : R W (AS.and Z p) S ρ σ H := by
  refine ⟨r.len, r.keep, r.sh, fun i l e => ?_, fun i l e => ?_, r.dis, fun a h => ?_, fun a h z => ?_, fun q hq => ?_⟩
  · obtain ⟨a, xs, h1, h2, h3, h4⟩ := r.ol i l e
    refine ⟨a, xs, h1, h2, ⟨h3.1, fun z => ?_, h3.2.2⟩, h4⟩
    rcases z with z | z
    · exact h3.2.1 z
    · subst z; exact hn i (by rw [e]; trivial) h1
  · obtain ⟨a, xs, h1, h2, h3, h4⟩ := r.od i l e
    refine ⟨a, xs, h1, h2, ⟨h3.1, fun z => ?_, h3.2.2⟩, h4⟩
    rcases z with z | z
    · exact h3.2.1 z
    · subst z; exact hn i (by rw [e]; trivial) h1
  · rcases h with h | h | h
    · exact r.trk a (.inl h)
    · exact r.trk a (.inr h)
    · subst h; exact ht
  · rcases z with z | z
    · exact r.dz a h z
    · subst z; exact hs.1 h
  · obtain ⟨h1, h2, h3⟩ := r.pool q hq
    refine ⟨h1, fun z => ?_, h3⟩
    rcases z with z | z
    · exact h2 z
    · subst z; exact hs.2.2 hq
theorem R.unguard (r : R W (AS.and Z p) S ρ σ H) (hz : ¬ Z p) : R W Z S ρ σ H ∧ Own W Z S p ∧ NoOwn ρ σ p := by
  refine ⟨⟨r.len, r.keep, r.sh, fun i l e => ?_, fun i l e => ?_, r.dis, fun a h => ?_, fun a h z => r.dz a h (.inl z), fun q hq => ?_⟩, ⟨fun h => r.dz p h (.inr rfl), hz, fun hp => (r.pool p hp).2.1 (.inr rfl)⟩, fun i hi e => (r.own_trk hi e).2.2.1 (.inr rfl)⟩
  · obtain ⟨a, xs, h1, h2, h3, h4⟩ := r.ol i l e
    exact ⟨a, xs, h1, h2, ⟨h3.1, fun z => h3.2.1 (.inl z), h3.2.2⟩, h4⟩
  · obtain ⟨a, xs, h1, h2, h3, h4⟩ := r.od i l e
    exact ⟨a, xs, h1, h2, ⟨h3.1, fun z => h3.2.1 (.inl z), h3.2.2⟩, h4⟩
  · rcases h with h | h
    · exact r.trk a (.inl h)
    · exact r.trk a (.inr (.inl h))
  · obtain ⟨h1, h2, h3⟩ := r.pool q hq
    exact ⟨h1, fun z => h2 (.inl z), h3⟩
/-- what is kept may be written by its owner -/
theorem R.updZ {o : HO} (r : R W Z S ρ σ H) (hz : Z p) : R W Z S ρ σ (L2.upd H p o) := by
  have ks : ∀ a, S a → S a ∧ (L2.upd H p o) a = H a := fun a h => ⟨h, upd_ne (fun e => r.dz a h (e ▸ hz))⟩
  refine ⟨r.len, r.keep, fun i d e => ?_, fun i l e => ?_, fun i l e => ?_, r.dis, fun a h => ?_, r.dz, fun q hq => ?_⟩
  · obtain ⟨v, h1, h2⟩ := r.sh i d e
    exact ⟨v, h1, Rep.mono ks _ _ h2⟩
  · obtain ⟨a, xs, h1, h2, h3, h4⟩ := r.ol i l e
    exact ⟨a, xs, h1, (show (L2.upd H p o) a = H a from upd_ne (fun e => h3.2.1 (by rw [e]; exact hz))).trans h2, h3, Reps.mono ks _ _ h4⟩
  · obtain ⟨a, xs, h1, h2, h3, h4⟩ := r.od i l e
    exact ⟨a, xs, h1, (show (L2.upd H p o) a = H a from upd_ne (fun e => h3.2.1 (by rw [e]; exact hz))).trans h2, h3, RepKs.mono ks h4⟩
  · by_cases e : a = p
    · rw [e, upd_same]; simp
    · rw [upd_ne e]; exact r.trk a h
  · obtain ⟨h1, h2, e2, ns, i, x, c, z, e1, e3, e4⟩ := r.pool q hq
    have n1 : q ≠ p := fun e => h2 (e ▸ hz)
    exact ⟨h1, h2, e2, ns, i, x, c, z, by rw [upd_ne n1]; exact e1, (ks _ e2).2.trans e3, e4⟩
theorem Ext.unguard (e : Ext (AS.and Z p) S H S' H') : Ext Z S H S' H' ∧ H' p = H p := ⟨⟨e.s, fun a h => e.z a (.inl h)⟩, e.z p (.inr rfl)⟩
theorem backE_get : ∀ {own : List Nat} {j : Nat}, (Wg.backE ρ1 ρ2 own)[j]? = if j ∈ own then (ρ2[j]?).map (fun _ => ρ1[j]?.getD .un) else ρ2[j]?
  | [], j => by simp [Wg.backE]
  | i :: is, j => by
    unfold Wg.backE
    by_cases e : j = i
    · subst e
      rw [List.getElem?_set_self', backE_get]
      simp only [List.mem_cons, true_or, if_true]
      split
      · cases ρ2[j]? <;> rfl
      · cases ρ2[j]? <;> rfl
    · rw [List.getElem?_set_ne (Ne.symm e), backE_get]
      simp [List.mem_cons, e]
theorem backE_len : ∀ (own : List Nat), (Wg.backE ρ1 ρ2 own).length = ρ2.length
  | [] => rfl
  | i :: is => by unfold Wg.backE; rw [List.length_set, backE_len is]
theorem R.back {own : List Nat} (r : R W Z S ρ σ H) (e : Ext Z S H S' H') (r' : R W Z S' ρ' (L2.wipe σ own) H') (no : ∀ i ∈ own, ¬ isOwn ρ[i]?) :
    R W Z S' (Wg.backE ρ ρ' own) σ H' ∧ ∀ p, NoOwn ρ' (L2.wipe σ own) p → NoOwn (Wg.backE ρ ρ' own) σ p := by
  have ownB : ∀ j : Nat, isOwn (Wg.backE ρ ρ' own)[j]? → j ∉ own ∧ isOwn ρ'[j]? := fun j o => by
    rw [backE_get] at o
    split at o
    · rename_i hj
      exfalso
      cases q : ρ'[j]? with
      | none => rw [q] at o; exact o
      | some x =>
        rw [q] at o
        apply no j hj
        cases z : ρ[j]? with
        | none => rw [z] at o; exact o
        | some y => rw [z] at o; exact o
    · rename_i hj
      exact ⟨hj, o⟩
  have wout : ∀ j : Nat, j ∉ own → (L2.wipe σ own)[j]? = σ[j]? := fun j h => wipe_out h
  refine ⟨⟨?_, r.keep, fun j d q => ?_, fun j l q => ?_, fun j l q => ?_, fun i j a h1 h2 e1 e2 => ?_, r'.trk, r'.dz, r'.pool⟩, fun p hn i hi q => ?_⟩
  · rw [backE_len, r'.len, wipe_length]
  · rw [backE_get] at q
    split at q
    · rename_i hj
      cases z : ρ[j]? with
      | none =>
        rw [z] at q
        cases w : ρ'[j]? <;> rw [w] at q <;> cases q
      | some y =>
        rw [z] at q
        cases w : ρ'[j]? with
        | none => rw [w] at q; cases q
        | some u =>
          rw [w] at q
          cases q
          obtain ⟨v, h1, h2⟩ := r.sh j d z
          exact ⟨v, h1, Rep.mono e.s _ _ h2⟩
    · rename_i hj
      obtain ⟨v, h1, h2⟩ := r'.sh j d q
      exact ⟨v, by rw [← wout j hj]; exact h1, h2⟩
  · obtain ⟨hj, _⟩ := ownB j (by rw [q]; trivial)
    rw [backE_get, if_neg hj] at q
    obtain ⟨a, xs, h1, h2⟩ := r'.ol j l q
    exact ⟨a, xs, by rw [← wout j hj]; exact h1, h2⟩
  · obtain ⟨hj, _⟩ := ownB j (by rw [q]; trivial)
    rw [backE_get, if_neg hj] at q
    obtain ⟨a, xs, h1, h2⟩ := r'.od j l q
    exact ⟨a, xs, by rw [← wout j hj]; exact h1, h2⟩
  · obtain ⟨n1, o1⟩ := ownB i h1
    obtain ⟨n2, o2⟩ := ownB j h2
    exact r'.dis i j a o1 o2 (by rw [wout i n1]; exact e1) (by rw [wout j n2]; exact e2)
  · obtain ⟨n1, o1⟩ := ownB i hi
    exact hn i o1 (by rw [wout i n1]; exact q)
end
/-! ### a dict's lock -/
section
variable {W : Wd} {Z S S' : AS} {ρ ρ' : Wg.Env} {σ : L2.St} {H H' : Hp} {v : V} {d : Addr} {u : HO} {o : Obj} {kvs : List (Key × V)}
theorem sm_lock (h : H d = some (.dK kvs)) : ∀ a, Sm (H a) ((L2.upd H d (.frz o (.dK kvs))) a) := fun a => by
  by_cases c : a = d
  · subst c
    rw [upd_same]
    exact .inr ⟨kvs, .inl h, .inr ⟨o, rfl⟩⟩
  · rw [upd_ne c]
    exact .refl
theorem sm_unlock (h : H d = some (.frz o (.dK kvs))) : ∀ a, Sm (H a) ((L2.upd H d (.dK kvs)) a) := fun a => by
  by_cases c : a = d
  · subst c
    rw [upd_same]
    exact .inr ⟨kvs, .inr ⟨o, h⟩, .inl rfl⟩
  · rw [upd_ne c]
    exact .refl
theorem R.sm (r : R W Z S ρ σ H) (hd : S d) (k : ∀ a, Sm (H a) ((L2.upd H d u) a)) : R W Z S ρ σ (L2.upd H d u) := by
  have ks : ∀ a, S a → S a ∧ Sm (H a) ((L2.upd H d u) a) := fun a h => ⟨h, k a⟩
  have ne : ∀ {a}, Own W Z S a → a ≠ d := fun h e => h.1 (e ▸ hd)
  refine ⟨r.len, r.keep, fun i x e => ?_, fun i l e => ?_, fun i l e => ?_, r.dis, fun a h => (k a).ne (r.trk a h), r.dz, fun q hq => ?_⟩
  · obtain ⟨w, h1, h2⟩ := r.sh i x e
    exact ⟨w, h1, Rep.mono' ks h2⟩
  · obtain ⟨a, xs, h1, h2, h3, h4⟩ := r.ol i l e
    exact ⟨a, xs, h1, (upd_ne (ne h3)).trans h2, h3, Reps.mono' ks h4⟩
  · obtain ⟨a, xs, h1, h2, h3, h4⟩ := r.od i l e
    exact ⟨a, xs, h1, (upd_ne (ne h3)).trans h2, h3, RepKs.mono' ks h4⟩
  · obtain ⟨h1, h2, e2, ns, i, x, c, z, e1, e3, e4⟩ := r.pool q hq
    exact ⟨h1, h2, e2, ns, i, x, c, z, (k q).lst e1, (k W.ps).lst e3, e4⟩
theorem RepS.sm {s : Slot} (h : RepS W Z S ρ σ H v s) (hd : S d) (k : ∀ a, Sm (H a) ((L2.upd H d u) a)) : RepS W Z S ρ σ (L2.upd H d u) v s := by
  have ks : ∀ a, S a → S a ∧ Sm (H a) ((L2.upd H d u) a) := fun a h => ⟨h, k a⟩
  have ne : ∀ {a}, Own W Z S a → a ≠ d := fun h e => h.1 (e ▸ hd)
  cases s with
  | un => exact h
  | sh x => exact Rep.mono' ks (show Rep W S H v x from h)
  | ol l =>
    obtain ⟨a, xs, e, h2, h3, h4, h5⟩ := h
    exact ⟨a, xs, e, (upd_ne (ne h3)).trans h2, h3, h4, Reps.mono' ks h5⟩
  | od l =>
    obtain ⟨a, xs, e, h2, h3, h4, h5⟩ := h
    exact ⟨a, xs, e, (upd_ne (ne h3)).trans h2, h3, h4, RepKs.mono' ks h5⟩
/-- behind the unlocking -/
theorem Ext.unlock {u' : HO} (e : Ext Z S (L2.upd H d u') S' H') (hd : S d) (hz : ¬ Z d) (h : H d = some u) : Ext Z S H S' (L2.upd H' d u) := by
  refine ⟨fun a ha => ⟨(e.s a ha).1, ?_⟩, fun a ha => ?_⟩
  · by_cases c : a = d
    · subst c; rw [upd_same, h]
    · rw [upd_ne c, (e.s a ha).2, upd_ne c]
  · have c : a ≠ d := fun q => hz (q ▸ ha)
    rw [upd_ne c, e.z a ha, upd_ne c]
end
section
variable {X : Cx} {W : Wd} {Φ : Wg.Ctx}
def tXk (W : Wd) (Φ : Wg.Ctx) (it : Wg.It) (e : Ex) : TE := fun σ H Q => ∃ Z S ρ Qs, R W Z S ρ σ H ∧ lockP it ρ σ H ∧ Wg.wX Φ e ρ Qs ∧
  ∀ v H' S' ρ' s, Ext Z S H S' H' → R W Z S' ρ' σ H' → RepS W Z S' ρ' σ H' v s → Qs s ρ' → Q v H'
/-- is a dict walked? -/
theorem walked (it : Wg.It) (ρ : Wg.Env) : (∃ i l, it = .e (.var i) ∧ (ρ[i]? = some (.sh (.dct l)) ∨ ρ[i]? = some (.od l))) ∨ ∀ σ H, lockP it ρ σ H := by
  by_cases c : ∃ i l, it = .e (.var i) ∧ (ρ[i]? = some (.sh (.dct l)) ∨ ρ[i]? = some (.od l))
  · exact .inl c
  · refine .inr fun σ H => ?_
    cases it with
    | e a =>
      cases a with
      | var i => exact fun l h => (c ⟨i, l, rfl, h⟩).elim
      | _ => trivial
    | _ => trivial
/-- the walked dict is known, it may be locked -/
theorem R.walk {Z S : AS} {ρ : Wg.Env} {σ : L2.St} {H : Hp} {i : Nat} {l : List (D × D)} (r : R W Z S ρ σ H) (h : ρ[i]? = some (.sh (.dct l)) ∨ ρ[i]? = some (.od l)) :
    ∃ S0 ρ0 d kvs, Ext Z S H S0 H ∧ R W Z S0 ρ0 σ H ∧ (ρ0 = ρ ∨ (ρ[i]? = some (.od l) ∧ ρ0 = ρ.set i (.sh (.dct l)))) ∧ ρ0[i]? = some (.sh (.dct l)) ∧ σ[i]? = some (some (.ref d)) ∧ S0 d ∧ Rd H d (.dK kvs) := by
  rcases h with h | h
  · obtain ⟨v, e, rv⟩ := r.sh i _ h
    obtain ⟨a, kvs, rfl, sa, ra, _⟩ := dct_at rv
    exact ⟨S, ρ, a, kvs, .refl, r, .inl rfl, h, e, sa, ra⟩
  · obtain ⟨a, e, e1, r1, rv⟩ := r.freezeD h
    obtain ⟨a2, kvs, ea, sa, ra, _⟩ := dct_at rv
    cases ea
    exact ⟨_, _, a, kvs, e1, r1, .inr ⟨h, rfl⟩, List.getElem?_set_self (List.getElem?_eq_some_iff.mp h).1, e, sa, ra⟩
theorem lkAt_of {ρ : Wg.Env} {σ : L2.St} {H : Hp} {i : Nat} {l : List (D × D)} {d : Addr} {o : Obj} {kvs : List (Key × V)} (h1 : ρ[i]? = some (.sh (.dct l))) (h2 : σ[i]? = some (some (.ref d))) (h3 : H d = some (.frz o (.dK kvs))) : lockP (.e (.var i)) ρ σ H := fun m hm => by
  have : m = l := by rcases hm with q | q <;> rw [h1] at q <;> cases q; rfl
  subst this
  exact ⟨d, o, kvs, h1, h2, h3⟩
theorem lockE {ex : Expr} {it : Wg.It} {e : Ex} (h : PE X ex (tXk W Φ it e)) (fz : ∀ i ρ l Q, it = .e (.var i) → ρ[i]? = some (.od l) → Wg.wX Φ e ρ Q → Wg.wX Φ e (ρ.set i (.sh (.dct l))) Q) : PE X ex (tX W Φ e) := by
  refine ⟨fun pins s σ H Q I hq => ?_⟩
  obtain ⟨Z, S, ρ, Qs, r, hw, k⟩ := hq
  rcases walked it ρ with ⟨i, l, rfl, hs⟩ | free
  · obtain ⟨S0, ρ0, d, kvs, e0, r0, er, hs0, hσ, sd, rd⟩ := r.walk hs
    have hw0 : Wg.wX Φ e ρ0 Qs := by
      rcases er with rfl | ⟨q, rfl⟩
      · exact hw
      · exact fz i ρ l Qs rfl q hw
    rcases rd with hd | ⟨o, hd⟩
    · refine (pe_lock h).run pins s σ H Q I ⟨d, .dK kvs, hd, trivial, fun od => ?_⟩
      refine ⟨Z, S0, ρ0, Qs, r0.sm sd (sm_lock hd), lkAt_of hs0 hσ upd_same, hw0, fun v H' S' ρ' s e1 r1 rv q => ?_⟩
      have hf : H' d = some (.frz od (.dK kvs)) := by rw [(e1.s d sd).2, upd_same]
      have sd' := (e1.s d sd).1
      exact ⟨hf, k v _ S' ρ' s (e0.trans (e1.unlock sd (r0.dz d sd) hd)) (r1.sm sd' (sm_unlock hf)) (rv.sm sd' (sm_unlock hf)) q⟩
    · exact h.run pins s σ H Q I ⟨Z, S0, ρ0, Qs, r0, lkAt_of hs0 hσ hd, hw0, fun v H' S' ρ' s e1 r1 rv q => k v H' S' ρ' s (e0.trans e1) r1 rv q⟩
  · exact h.run pins s σ H Q I ⟨Z, S, ρ, Qs, r, free σ H, hw, k⟩
theorem wI_frz {i : Nat} {ρ : Wg.Env} {l : List (D × D)} {Q : List D → Wg.Env → Prop} (h : ρ[i]? = some (.od l)) (q : Wg.wI Φ (.e (.var i)) ρ Q) : Wg.wI Φ (.e (.var i)) (ρ.set i (.sh (.dct l))) Q := by
  have q : Wg.varX ρ i fun s ρ1 => Wg.itemsV true s.val fun l => Q l ρ1 := q
  show Wg.varX (ρ.set i (.sh (.dct l))) i fun s ρ1 => Wg.itemsV true s.val fun l => Q l ρ1
  unfold Wg.varX at q ⊢
  rw [h] at q
  rw [List.getElem?_set_self (List.getElem?_eq_some_iff.mp h).1]
  exact q
end
section
variable {T : Tab} {X : Cx} {W : Wd} {Φ : Wg.Ctx} {N : List Str} {a : Ex} {t : Tg} {it : Wg.It} {c : Exs} {own : List Nat}
theorem zipB_tp (h : zipB it t = true) (z : isZip it) : ∃ ts, t = .tp ts := by
  cases it with
  | zip es =>
    cases t with
    | tp ts => exact ⟨ts, rfl⟩
    | nm i => cases h
    | sb k i => cases h
  | e e => exact z.elim
  | range es => exact z.elim
theorem lc_imp (hk : ∀ i ∈ own, W.keep i = none) (htg : tgIn own t = true) (hz : zipB it t = true) : ∀ σ H Q, tXk W Φ it (.lc own a t it c) σ H Q → tLc (tI W Φ it) (tT W Φ t) (tCs W Φ c) (tX W Φ a) own σ H Q := fun σ H Q ⟨Z, S, ρ, Qs, r, lk, hw, k⟩ => by
  unfold Wg.wX at hw
  refine ⟨Z, S, ρ, _, r, lk, hw, fun J H1 S1 ρ1 items e1 r1 wk sm q D hD => ?_⟩
  obtain ⟨S2, e2, r2, no⟩ := R.freezeI own r1
  have oD := r2.own_new hD
  have nD := r2.noOwn_new hD
  have r3 := r2.upd oD nD (.lst [])
  have r5 := (r3.guard oD nD (by rw [upd_same]; simp)).wipe own hk
  obtain ⟨G, Y, w, hG, hY⟩ := wk
  have stab : ∀ {S4 H4}, Ext Z S2 (L2.upd H1 D (.lst [])) S4 H4 → ∀ a, S1 a → S4 a ∧ H4 a = H1 a := fun {S4 H4} ex a ha => by
    have h2 := (e2.s a ha).1
    obtain ⟨h3, h4⟩ := ex.s a h2
    exact ⟨h3, h4.trans (upd_ne (fun e => oD.1 (e ▸ h2)))⟩
  refine lc_it w (Pv := fun i H => ∃ S4 acc ds ρ4, Ext Z S2 (L2.upd H1 D (.lst [])) S4 H ∧ R W (AS.and Z D) S4 ρ4 (L2.wipe σ own) H ∧ H D = some (.lst acc) ∧ Reps W S4 H acc ds ∧ ds.length ≤ i ∧
    Wg.lcW (fun x ρ' K => Wg.wT Φ t (.sh x) ρ' fun ρ2 => Wg.wCs Φ c ρ2 fun b ρ3 => bif b then Wg.wX Φ a ρ3 fun s ρ4 => K (some s.val) (Wg.wipeE ρ4 own) else K none (Wg.wipeE ρ3 own)) (items.drop i) ds ρ4
        fun ds ρ2 => Qs (.ol ds) (Wg.backE (Wg.freezeI ρ1 own) ρ2 own)) ⟨S2, [], [], _, .refl, r5, upd_same, .nil, Nat.le_refl _, q⟩
    (fun i H4 _ ⟨S4, acc, ds, ρ4, ex, _⟩ => hG S4 H4 (stab ex)) (fun i x H4 H5 hi ⟨S4, acc, ds, ρ4, ex, rr, hDD, ra, hl, hq⟩ y => ?_) (fun H4 ⟨S4, acc, ds, ρ4, ex, rr, hDD, ra, hl, hq⟩ => ?_)
  · have hd : items.drop i = items[i] :: items.drop (i + 1) := List.drop_eq_getElem_cons hi
    rw [hd] at hq
    have hq := (show Wg.wT Φ t (.sh items[i]) ρ4 _ from hq)
    -- what is behind the targets
    have behind : ∀ σ2 H6 S6 ρ6, Ext (AS.and Z D) S4 H4 S6 H6 → R W (AS.and Z D) S6 ρ6 σ2 H6 → (∀ vs, tgIn vs t = true → L2.wipe σ2 vs = L2.wipe (L2.wipe σ own) vs) → (Wg.wCs Φ c ρ6 fun b ρ3 => bif b then Wg.wX Φ a ρ3 fun s ρ4 => Wg.lcW (fun x ρ' K => Wg.wT Φ t (.sh x) ρ' fun ρ2 => Wg.wCs Φ c ρ2 fun b ρ3 => bif b then Wg.wX Φ a ρ3 fun s ρ4 => K (some s.val) (Wg.wipeE ρ4 own) else K none (Wg.wipeE ρ3 own)) (items.drop (i + 1)) (ds ++ [s.val]) (Wg.wipeE ρ4 own)
        (fun ds ρ2 => Qs (.ol ds) (Wg.backE (Wg.freezeI ρ1 own) ρ2 own)) else Wg.lcW (fun x ρ' K => Wg.wT Φ t (.sh x) ρ' fun ρ2 => Wg.wCs Φ c ρ2 fun b ρ3 => bif b then Wg.wX Φ a ρ3 fun s ρ4 => K (some s.val) (Wg.wipeE ρ4 own) else K none (Wg.wipeE ρ3 own)) (items.drop (i + 1)) ds (Wg.wipeE ρ3 own)
        fun ds ρ2 => Qs (.ol ds) (Wg.backE (Wg.freezeI ρ1 own) ρ2 own)) →
        L2.wipe σ2 own = L2.wipe σ own ∧ tCs W Φ c σ2 H6 fun b H7 => if b = true then tX W Φ a σ2 H7 fun y H8 => ∃ acc, H8 D = some (.lst acc) ∧ acc.length < sizeLine ∧ (∃ S4 acc_1 ds ρ4, Ext Z S2 (L2.upd H1 D (.lst [])) S4 (L2.upd H8 D (.lst (acc ++ [y]))) ∧ R W (AS.and Z D) S4 ρ4 (L2.wipe σ own) (L2.upd H8 D (.lst (acc ++ [y]))) ∧ (L2.upd H8 D (.lst (acc ++ [y]))) D = some (.lst acc_1) ∧ Reps W S4 (L2.upd H8 D (.lst (acc ++ [y]))) acc_1 ds ∧ ds.length ≤ i + 1 ∧
          Wg.lcW (fun x ρ' K => Wg.wT Φ t (.sh x) ρ' fun ρ2 => Wg.wCs Φ c ρ2 fun b ρ3 => bif b then Wg.wX Φ a ρ3 fun s ρ4 => K (some s.val) (Wg.wipeE ρ4 own) else K none (Wg.wipeE ρ3 own)) (items.drop (i + 1)) ds ρ4 fun ds ρ2 => Qs (.ol ds) (Wg.backE (Wg.freezeI ρ1 own) ρ2 own)) else
          (∃ S4 acc ds ρ4, Ext Z S2 (L2.upd H1 D (.lst [])) S4 H7 ∧ R W (AS.and Z D) S4 ρ4 (L2.wipe σ own) H7 ∧ H7 D = some (.lst acc) ∧ Reps W S4 H7 acc ds ∧ ds.length ≤ i + 1 ∧
          Wg.lcW (fun x ρ' K => Wg.wT Φ t (.sh x) ρ' fun ρ2 => Wg.wCs Φ c ρ2 fun b ρ3 => bif b then Wg.wX Φ a ρ3 fun s ρ4 => K (some s.val) (Wg.wipeE ρ4 own) else K none (Wg.wipeE ρ3 own)) (items.drop (i + 1)) ds ρ4 fun ds ρ2 => Qs (.ol ds) (Wg.backE (Wg.freezeI ρ1 own) ρ2 own)) := by
      intro σ2 H6 S6 ρ6 e6 r6 wp q6
      have hwipe : L2.wipe σ2 own = L2.wipe σ own := (wp own htg).trans wipe_wipe
      refine ⟨hwipe, AS.and Z D, S6, ρ6, _, r6, q6, fun b H7 S7 ρ7 e7 r7 q7 => ?_⟩
      have e67 := e6.trans e7
      cases b with
      | false =>
        refine ⟨S7, acc, ds, _, ex.trans e67.unguard.1, hwipe ▸ r7.wipe own hk, e67.unguard.2.trans hDD, Reps.mono e67.s _ _ ra, Nat.le_succ_of_le hl, q7⟩
      | true =>
        refine ⟨AS.and Z D, S7, ρ7, _, r7, q7, fun y H8 S8 ρ8 s e8 r8 ry q8 => ?_⟩
        obtain ⟨S9, e9, r9, ry9⟩ := fin_val r8 ry
        have eAll := (e67.trans e8).trans e9
        have hD8 := eAll.unguard.2.trans hDD
        have rU := r9.updZ (p := D) (o := .lst (acc ++ [y])) (.inr rfl)
        have eU : Ext Z S9 H8 S9 (L2.upd H8 D (.lst (acc ++ [y]))) := ⟨fun b hb => ⟨hb, upd_ne (fun e => r9.dz b hb (.inr e))⟩, fun b hb => upd_ne (fun e => oD.2.1 (e ▸ hb))⟩
        refine ⟨acc, hD8, ?_, S9, acc ++ [y], ds ++ [s.val], _, (ex.trans eAll.unguard.1).trans eU, hwipe ▸ rU.wipe own hk, upd_same, ?_, ?_, q8⟩
        · rw [ra.length]
          omega
        · exact Reps.mono eU.s _ _ (Reps.snoc (Reps.mono eAll.s _ _ ra) ry9)
        · rw [List.length_append]
          simp
          omega
    rcases hY S4 H4 i x H5 (stab ex) hi y with ⟨rfl, d, hd2, rx⟩ | ⟨hz2, P, v1, w1, d, e, rfl, hP, rfl, hd2, rv1, rw1⟩
    · have : items[i] = d := by rw [List.getElem?_eq_getElem hi] at hd2; exact Option.some.inj hd2
      rw [this] at hq
      exact ⟨AS.and Z D, S4, ρ4, .sh d, _, rr, .inl rx, hq, fun σ2 H6 S6 ρ6 e6 r6 wp q6 => behind σ2 H6 S6 ρ6 e6 r6 wp q6⟩
    · have : items[i] = .tup [d, e] := by rw [List.getElem?_eq_getElem hi] at hd2; exact Option.some.inj hd2
      rw [this] at hq
      have oP := rr.own_new hP
      have eP := Ext.upd (H := H4) oP (.tup [v1, w1])
      have rP := rr.upd oP (rr.noOwn_new hP) (.tup [v1, w1])
      refine ⟨AS.and Z D, S4, ρ4, .sh (.tup [d, e]), _, rP, .inr ⟨zipB_tp hz hz2, P, [v1, w1], [d, e], rfl, rfl, .inl (.inl upd_same), Reps.mono eP.s _ _ (.cons rv1 (.cons rw1 .nil))⟩, hq, fun σ2 H6 S6 ρ6 e6 r6 wp q6 => behind σ2 H6 S6 ρ6 (eP.trans e6) r6 wp q6⟩
  · rw [List.drop_length] at hq
    have hq : Qs (.ol ds) (Wg.backE (Wg.freezeI ρ1 own) ρ4 own) := hq
    obtain ⟨rU, o4, n4⟩ := rr.unguard oD.2.1
    obtain ⟨rB, nB⟩ := R.back r3 ex rU no
    exact k (.ref D) H4 S4 _ (.ol ds) ((e1.trans e2).trans ((Ext.upd oD _).trans ex)) rB ⟨D, acc, rfl, hDD, o4, nB D n4, ra⟩ hq
theorem ownP_snd : (ownP N own).map (·.2) = own := by
  unfold ownP
  rw [List.map_map]
  exact List.map_id _
theorem folded_pl {e : Expr} {env : PySem.Env} (h : plB e = true) : ∀ x, foldedSetIterable e env x = pure x := by
  intro x
  cases e <;> first | rfl | cases h
theorem snd_lc {elt tg iter : Expr} {ifs : List Expr} {scope : Scope} {pos : Pos} (g : Good T W Φ N X) (hi : PI X tg iter (tI W Φ it)) (ok : BlkOk X.N X.env.scope scope (ownP N own))
    (hg : ∀ (s : Shared) (H : Hp) (C : Addr) (cl : List (Str × Addr)) (fp : List Addr), PG (X.blk s H scope (compEnvC scope cl C X.env) fp) tg (tT W Φ t))
    (ht : ∀ (s : Shared) (H : Hp) (C : Addr) (cl : List (Str × Addr)) (fp : List Addr), PTs (X.blk s H scope (compEnvC scope cl C X.env) fp) ifs (tCs W Φ c))
    (he : ∀ (s : Shared) (H : Hp) (C : Addr) (cl : List (Str × Addr)) (fp : List Addr), PE (X.blk s H scope (compEnvC scope cl C X.env) fp) elt (tX W Φ a)) (hp : plB iter = true) (hk : ∀ i ∈ own, W.keep i = none) (htg : tgIn own t = true) (hz : zipB it t = true) :
    PE X (.ListComp elt [⟨tg, iter, ifs, 0⟩] scope pos) (tX W Φ (.lc own a t it c)) := by
  refine lockE (it := it) ?_ fun i ρ l Q ei hs hw => by
    subst ei
    unfold Wg.wX at hw ⊢
    exact wI_frz hs hw
  refine PE.imp (pe_lc g.calm (g.hN ▸ g.nd) hi ok hg ht he (folded_pl hp)) ?_
  rw [ownP_snd]
  exact lc_imp hk htg hz
theorem snd_setLc {elt tg iter : Expr} {ifs : List Expr} {scope : Scope} {pos spos py : Pos} {i : Nat} {y : Str} (g : Good T W Φ N X) (hy : X.N[i]? = some y) (hyl : X.env.scope.names.lookup y = some .local)
    (hsw : swapsWith (.ListComp elt [⟨tg, iter, ifs, 0⟩] scope pos) (some (.Name y py)) spos.line X.env = pure true) (hi : PI X tg iter (tI W Φ it)) (ok : BlkOk X.N X.env.scope scope (ownP N own))
    (hg : ∀ (s : Shared) (H : Hp) (C : Addr) (cl : List (Str × Addr)) (fp : List Addr), PG (X.blk s H scope (compEnvC scope cl C X.env) fp) tg (tT W Φ t))
    (ht : ∀ (s : Shared) (H : Hp) (C : Addr) (cl : List (Str × Addr)) (fp : List Addr), PTs (X.blk s H scope (compEnvC scope cl C X.env) fp) ifs (tCs W Φ c))
    (he : ∀ (s : Shared) (H : Hp) (C : Addr) (cl : List (Str × Addr)) (fp : List Addr), PE (X.blk s H scope (compEnvC scope cl C X.env) fp) elt (tX W Φ a)) (hp : plB iter = true) (hk : ∀ i ∈ own, W.keep i = none) (htg : tgIn own t = true) (hz : zipB it t = true) :
    PS X (.Assign [.Name y py] (.ListComp elt [⟨tg, iter, ifs, 0⟩] scope pos) spos) (tAsg (tXk W Φ it (.lc own a t it c)) (gName i)) := by
  refine PS.imp (ps_setLc g.calm (g.hN ▸ g.nd) hy hyl hsw hi ok hg ht he (folded_pl hp)) fun D σ H q => ?_
  rw [ownP_snd]
  exact lc_imp hk htg hz σ H _ q
end
end WgS
set_option Elab.async false
set_option linter.all false
set_option maxRecDepth 100000
set_option maxHeartbeats 1000000
/-! WgS: the order of the stores. -/
namespace WgS
open PySem PySem.Spec PyProof.Rows L2
theorem blockKind_fn {env : PySem.Env} (hk : env.scope.kind = .function) : env.blockKind = .function := by
  unfold Env.blockKind; rw [hk]; rfl
theorem swp_eq {env : PySem.Env} {tg e : Expr} {o : Option (List Str)} (hk : env.scope.kind = .function) (h : swp env.scope [tg] e = some o) : swappedStores [tg] e env = pure o := by
  have hb := blockKind_fn hk
  cases tg with
  | Tuple ts k p =>
    cases e with
    | Tuple vs k2 p2 =>
      unfold swp at h
      unfold swappedStores
      have hkd : ∀ x, env.kindOf x = env.scope.names.lookup x := fun _ => rfl
      simp only [hb, hkd, bne_self_eq_false, Bool.or_false]
      dsimp only at h
      split at h
      · rename_i c
        cases h
        exact (if_pos c)
      · rename_i c
        refine (if_neg c).trans ?_
        split at h
        · rename_i c2
          cases h
          exact (if_pos c2)
        · rename_i c2
          refine (if_neg c2).trans ?_
          split at h
          · rename_i c3
            cases h
            exact (if_pos c3)
          · rename_i c3
            refine (if_neg c3).trans ?_
            split at h
            · rename_i c4
              cases h
              exact (if_pos c4)
            · rename_i c4
              refine (if_neg c4).trans ?_
              split at h
              · cases h
              · rename_i c5
                cases h
                exact (if_neg c5)
    | _ => cases h; rfl
  | List ts p =>
    cases e with
    | Tuple vs k2 p2 => cases h
    | _ => cases h; rfl
  | _ => cases h; rfl
/-- the names of a swap's left side -/
def swF (sc : Scope) (line : Nat) : Expr → Option Str
  | .Name id pos => if (sc.names.lookup id == some .local && pos.line == line) = true then some id else none
  | _ => none
theorem swF_some {sc : Scope} {line : Nat} {t : Expr} {x : Str} (h : swF sc line t = some x) : ∃ p, t = .Name x p ∧ sc.names.lookup x = some .local := by
  unfold swF at h
  split at h
  · rename_i id pos
    split at h
    · rename_i c
      cases h
      simp only [Bool.and_eq_true] at c
      refine ⟨pos, rfl, ?_⟩
      cases q : sc.names.lookup x with
      | none => rw [q] at c; cases c.1
      | some k =>
        rw [q] at c
        cases k <;> first | rfl | (exact absurd c.1 (by decide))
    · cases h
  · cases h
theorem swp_names {sc : Scope} {ts vs : List Expr} {k k2 : Nat} {p p2 : Pos} {names : List Str} (h : swp sc [.Tuple ts k p] (.Tuple vs k2 p2) = some (some names)) :
    (ts.length = 2 ∨ ts.length = 3) ∧ vs.length = ts.length ∧ (∃ line, names = ts.filterMap (swF sc line)) ∧ names.length = ts.length ∧ names.eraseDups.length = names.length := by
  unfold swp at h
  dsimp only at h
  split at h
  · cases h
  · rename_i c
    split at h
    · cases h
    · split at h
      · cases h
      · rename_i c3
        split at h
        · cases h
        · split at h
          · cases h
          · cases h
            simp only [Bool.or_eq_true, Bool.not_eq_true, bne_iff_ne, ne_eq, not_or, Decidable.not_not, Bool.not_eq_eq_eq_not, Bool.not_true, beq_iff_eq, Bool.or_eq_false_iff, beq_eq_false_iff_ne] at c c3
            refine ⟨?_, c.2, ⟨(ts.head?.map (·.pos.line)).getD 0, ?_⟩, c3.1, c3.2⟩
            · omega
            · congr 1
theorem swp_two {sc : Scope} {t1 t2 : Expr} {vs : List Expr} {k k2 : Nat} {p p2 : Pos} {names : List Str} (h : swp sc [.Tuple [t1, t2] k p] (.Tuple vs k2 p2) = some (some names)) :
    ∃ x px y py a b, t1 = .Name x px ∧ t2 = .Name y py ∧ vs = [a, b] ∧ names = [x, y] ∧ sc.names.lookup x = some .local ∧ sc.names.lookup y = some .local ∧ x ≠ y := by
  obtain ⟨_, hv, ⟨line, hn⟩, hl, hd⟩ := swp_names h
  obtain ⟨a, b, rfl⟩ : ∃ a b, vs = [a, b] := by
    rcases vs with _ | ⟨a, _ | ⟨b, _ | ⟨c, r⟩⟩⟩ <;> first | exact ⟨a, b, rfl⟩ | cases hv
  simp only [List.filterMap_cons, List.filterMap_nil] at hn
  cases e1 : swF sc line t1 with
  | none =>
    rw [e1] at hn
    cases e2 : swF sc line t2 <;> rw [e2] at hn <;> subst hn <;> cases hl
  | some x =>
    cases e2 : swF sc line t2 with
    | none => rw [e1, e2] at hn; subst hn; cases hl
    | some y =>
      rw [e1, e2] at hn
      subst hn
      obtain ⟨px, rfl, lx⟩ := swF_some e1
      obtain ⟨py, rfl, ly⟩ := swF_some e2
      refine ⟨x, px, y, py, a, b, rfl, rfl, rfl, rfl, lx, ly, fun e => ?_⟩
      subst e
      simp [List.eraseDups_cons] at hd
theorem swp_three {sc : Scope} {t1 t2 t3 : Expr} {vs : List Expr} {k k2 : Nat} {p p2 : Pos} {names : List Str} (h : swp sc [.Tuple [t1, t2, t3] k p] (.Tuple vs k2 p2) = some (some names)) :
    ∃ x px y py z pz a b c, t1 = .Name x px ∧ t2 = .Name y py ∧ t3 = .Name z pz ∧ vs = [a, b, c] ∧ names = [x, y, z] ∧ sc.names.lookup x = some .local ∧ sc.names.lookup y = some .local ∧ sc.names.lookup z = some .local ∧ x ≠ y ∧ x ≠ z ∧ y ≠ z := by
  obtain ⟨_, hv, ⟨line, hn⟩, hl, hd⟩ := swp_names h
  obtain ⟨a, b, c, rfl⟩ : ∃ a b c, vs = [a, b, c] := by
    rcases vs with _ | ⟨a, _ | ⟨b, _ | ⟨c, _ | ⟨d, r⟩⟩⟩⟩ <;> first | exact ⟨a, b, c, rfl⟩ | cases hv
  simp only [List.filterMap_cons, List.filterMap_nil] at hn
  cases e1 : swF sc line t1 with
  | none => rw [e1] at hn; cases e2 : swF sc line t2 <;> cases e3 : swF sc line t3 <;> rw [e2, e3] at hn <;> subst hn <;> cases hl
  | some x =>
    cases e2 : swF sc line t2 with
    | none => rw [e1, e2] at hn; cases e3 : swF sc line t3 <;> rw [e3] at hn <;> subst hn <;> cases hl
    | some y =>
      cases e3 : swF sc line t3 with
      | none => rw [e1, e2, e3] at hn; subst hn; cases hl
      | some z =>
        rw [e1, e2, e3] at hn
        subst hn
        obtain ⟨px, rfl, lx⟩ := swF_some e1
        obtain ⟨py, rfl, ly⟩ := swF_some e2
        obtain ⟨pz, rfl, lz⟩ := swF_some e3
        refine ⟨x, px, y, py, z, pz, a, b, c, rfl, rfl, rfl, rfl, rfl, lx, ly, lz, fun e => ?_, fun e => ?_, fun e => ?_⟩
        · subst e
          rw [List.eraseDups_cons] at hd
          have := List.length_filter_le (fun b => !b == x) [x, z]
          simp only [List.filter_cons, beq_self_eq_true, Bool.not_true, Bool.false_eq_true, if_false, List.filter_nil, List.length_cons] at hd
          split at hd <;> simp [List.eraseDups_cons] at hd
        · subst e
          rw [List.eraseDups_cons] at hd
          simp only [List.filter_cons, beq_self_eq_true, Bool.not_true, Bool.false_eq_true, if_false, List.filter_nil, List.length_cons] at hd
          split at hd <;> simp [List.eraseDups_cons] at hd
        · subst e
          by_cases q : (y == x) = true
          · have q' : y = x := by simpa using q
            subst q'
            simp [List.eraseDups_cons] at hd
          · simp [List.eraseDups_cons, q] at hd
/-- a comprehension that stores its list itself -/
def swB (sc : Scope) (value tg : Expr) : Bool :=
  match value, tg with
  | .ListComp _ _ s _, .Name t pos => (match sc.names.lookup t with | some .local => true | _ => false) && pos.line == value.pos.line && !(s.names.any fun (n, k) => n == t && (k == .local || k == .cell))
  | .DictComp _ _ _ s _, .Name t pos => (match sc.names.lookup t with | some .local => true | _ => false) && pos.line == value.pos.line && !(s.names.any fun (n, k) => n == t && (k == .local || k == .cell))
  | _, _ => false
def notComp : Expr → Bool
  | .SetComp .. => false
  | _ => true
theorem swapsWith_eq {env : PySem.Env} {value tg : Expr} {l : Nat} (hk : env.scope.kind = .function) (hc : notComp value = true) : swapsWith value (some tg) l env = pure (swB env.scope value tg) := by
  have hb := blockKind_fn hk
  cases value with
  | ListComp e gs s p =>
    cases tg with
    | Name t pos =>
      unfold swapsWith swB
      simp only [hb]
      show (pure _ : Sem Bool) = pure _
      congr 1
      have e : (env.kindOf t == some NameKind.local) = (match env.scope.names.lookup t with | some .local => true | _ => false) := by
        show (env.scope.names.lookup t == some NameKind.local) = _
        cases env.scope.names.lookup t with
        | none => rfl
        | some k => cases k <;> rfl
      rw [e]
      rfl
    | _ => rfl
  | DictComp e e2 gs s p =>
    cases tg with
    | Name t pos =>
      unfold swapsWith swB
      simp only [hb]
      show (pure _ : Sem Bool) = pure _
      congr 1
      have e : (env.kindOf t == some NameKind.local) = (match env.scope.names.lookup t with | some .local => true | _ => false) := by
        show (env.scope.names.lookup t == some NameKind.local) = _
        cases env.scope.names.lookup t with
        | none => rfl
        | some k => cases k <;> rfl
      rw [e]
      rfl
    | _ => rfl
  | SetComp => cases hc
  | _ => rfl
end WgS
set_option Elab.async false
set_option linter.all false
set_option maxRecDepth 100000
set_option maxHeartbeats 1000000
/-! WgS: statements. -/
namespace WgS
open PySem PySem.Spec PyProof.Rows L2
open Wg (D Slot Opd Ex Exs Tg Tgs Kvs Sts BOp COp Blt Mth LB)
/-- the ends of Wg are among the ends -/
structure Fin (W : Wd) (Z S : AS) (H : Hp) (E : Wg.Ends) (D : L2.Ends) : Prop where
  nx : ∀ σ' H' S' ρ', Ext Z S H S' H' → R W Z S' ρ' σ' H' → E.nx ρ' → D.nx σ' H'
  rt : ∀ v H' S' ρ' σ' d, Ext Z S H S' H' → R W Z S' ρ' σ' H' → Rep W S' H' v d → E.rt d ρ' → D.rt v H'
  bk : ∀ σ' H' S' ρ', Ext Z S H S' H' → R W Z S' ρ' σ' H' → E.bk ρ' → D.bk σ' H'
  ct : ∀ σ' H' S' ρ', Ext Z S H S' H' → R W Z S' ρ' σ' H' → E.ct ρ' → D.ct σ' H'
theorem Fin.ext {W : Wd} {Z S S1 : AS} {H H1 : Hp} {E : Wg.Ends} {D : L2.Ends} (f : Fin W Z S H E D) (e : Ext Z S H S1 H1) : Fin W Z S1 H1 E D :=
  ⟨fun σ' H' S' ρ' e1 => f.nx σ' H' S' ρ' (e.trans e1), fun v H' S' ρ' σ' d e1 => f.rt v H' S' ρ' σ' d (e.trans e1), fun σ' H' S' ρ' e1 => f.bk σ' H' S' ρ' (e.trans e1), fun σ' H' S' ρ' e1 => f.ct σ' H' S' ρ' (e.trans e1)⟩
/-- a statement's reading, by its weakest precondition -/
def tW (W : Wd) (w : Wg.Env → Wg.Ends → Prop) : TS := fun D σ H => ∃ Z S ρ, ∃ E : Wg.Ends, R W Z S ρ σ H ∧ w ρ E ∧ Fin W Z S H E D
def tWk (W : Wd) (it : Wg.It) (w : Wg.Env → Wg.Ends → Prop) : TS := fun D σ H => ∃ Z S ρ, ∃ E : Wg.Ends, R W Z S ρ σ H ∧ lockP it ρ σ H ∧ w ρ E ∧ Fin W Z S H E D
theorem lockS {X : Cx} {W : Wd} {st : Stmt} {it : Wg.It} {w : Wg.Env → Wg.Ends → Prop} (h : PS X st (tWk W it w)) (fz : ∀ i ρ l E, it = .e (.var i) → ρ[i]? = some (.od l) → w ρ E → w (ρ.set i (.sh (.dct l))) E) : PS X st (tW W w) := by
  refine ⟨fun pins s σ H D I hq => ?_⟩
  obtain ⟨Z, S, ρ, E, r, hw, f⟩ := hq
  rcases walked it ρ with ⟨i, l, rfl, hs⟩ | free
  · obtain ⟨S0, ρ0, d, kvs, e0, r0, er, hs0, hσ, sd, rd⟩ := r.walk hs
    have hw0 : w ρ0 E := by
      rcases er with rfl | ⟨q, rfl⟩
      · exact hw
      · exact fz i ρ l E rfl q hw
    have f0 := f.ext e0
    rcases rd with hd | ⟨o, hd⟩
    · refine (ps_lock h).run pins s σ H D I ⟨d, .dK kvs, hd, trivial, fun od => ⟨Z, S0, ρ0, E, r0.sm sd (sm_lock hd), lkAt_of hs0 hσ upd_same, hw0, ?_⟩⟩
      have go : ∀ {S' : AS} {H' : Hp}, Ext Z S0 (L2.upd H d (.frz od (.dK kvs))) S' H' → H' d = some (.frz od (.dK kvs)) ∧ S' d := fun e1 => ⟨by rw [(e1.s d sd).2, upd_same], (e1.s d sd).1⟩
      refine ⟨fun σ' H' S' ρ' e1 r1 q => ?_, fun v H' S' ρ' σ' x e1 r1 rv q => ?_, fun σ' H' S' ρ' e1 r1 q => ?_, fun σ' H' S' ρ' e1 r1 q => ?_⟩ <;> obtain ⟨hf, sd'⟩ := go e1
      · exact ⟨hf, f0.nx σ' _ S' ρ' (e1.unlock sd (r0.dz d sd) hd) (r1.sm sd' (sm_unlock hf)) q⟩
      · exact ⟨hf, f0.rt v _ S' ρ' σ' x (e1.unlock sd (r0.dz d sd) hd) (r1.sm sd' (sm_unlock hf)) (Rep.mono' (fun a h => ⟨h, sm_unlock hf a⟩) rv) q⟩
      · exact ⟨hf, f0.bk σ' _ S' ρ' (e1.unlock sd (r0.dz d sd) hd) (r1.sm sd' (sm_unlock hf)) q⟩
      · exact ⟨hf, f0.ct σ' _ S' ρ' (e1.unlock sd (r0.dz d sd) hd) (r1.sm sd' (sm_unlock hf)) q⟩
    · exact h.run pins s σ H D I ⟨Z, S0, ρ0, E, r0, lkAt_of hs0 hσ hd, hw0, f0⟩
  · exact h.run pins s σ H D I ⟨Z, S, ρ, E, r, free σ H, hw, f⟩
section
variable {T : Tab} {X : Cx} {W : Wd} {Φ : Wg.Ctx} {N : List Str} {ex l r m : Expr} {pos np : Pos} {a b c e : Ex} {t : Tg} {es : Exs} {xs : List Expr} {x : Str} {st st2 : List Stmt} {w u : Wg.Env → Wg.Ends → Prop}
theorem snd_ss0 : PSs X [] (tW W fun ρ E => E.nx ρ) := PSs.imp pss_nil fun D σ H ⟨Z, S, ρ, E, r, hw, f⟩ => f.nx σ H S ρ .refl r hw
theorem snd_ss1 {s : Stmt} (h1 : PS X s (tW W w)) (h2 : PSs X st (tW W u)) : PSs X (s :: st) (tW W fun ρ E => w ρ ⟨fun ρ1 => u ρ1 E, E.rt, E.bk, E.ct⟩) :=
  PSs.imp (pss_cons h1 h2) fun D σ H ⟨Z, S, ρ, E, r, hw, f⟩ => ⟨Z, S, ρ, _, r, hw, ⟨fun σ' H' S' ρ' e1 r1 q => ⟨Z, S', ρ', E, r1, q, f.ext e1⟩, f.rt, f.bk, f.ct⟩⟩
theorem asg_imp : ∀ D σ H, tW W (fun ρ E => Wg.wX Φ e ρ fun s ρ1 => Wg.wT Φ t s ρ1 E.nx) D σ H → tAsg (tX W Φ e) (tT W Φ t) D σ H := fun D σ H ⟨Z, S, ρ, E, r, hw, f⟩ =>
  ⟨Z, S, ρ, _, r, hw, fun v H1 S1 ρ1 s e1 r1 rv q => ⟨Z, S1, ρ1, s, _, r1, .inl rv, q, fun σ' H' S' ρ' e2 r2 _ q2 => f.nx σ' H' S' ρ' (e1.trans e2) r2 q2⟩⟩
theorem asgN_imp {i : Nat} (hk : W.keep i = none) : ∀ D σ H, tW W (fun ρ E => Wg.wX Φ e ρ fun s ρ1 => Wg.wT Φ (.nm i) s ρ1 E.nx) D σ H → tAsg (tX W Φ e) (gName i) D σ H := fun D σ H ⟨Z, S, ρ, E, r, hw, f⟩ =>
  ⟨Z, S, ρ, _, r, hw, fun v H1 S1 ρ1 s e1 r1 rv q => f.nx _ H1 S1 _ e1 (r1.set hk rv) q⟩
theorem asgNk_imp {i : Nat} {it : Wg.It} (hk : W.keep i = none) : ∀ D σ H, tWk W it (fun ρ E => Wg.wX Φ e ρ fun s ρ1 => Wg.wT Φ (.nm i) s ρ1 E.nx) D σ H → tAsg (tXk W Φ it e) (gName i) D σ H := fun D σ H ⟨Z, S, ρ, E, r, lk, hw, f⟩ =>
  ⟨Z, S, ρ, _, r, lk, hw, fun v H1 S1 ρ1 s e1 r1 rv q => f.nx _ H1 S1 _ e1 (r1.set hk rv) q⟩
theorem snd_asg {tg : Expr} (hk : X.env.scope.kind = .function) (he : PE X ex (tX W Φ e)) (hg : PG X tg (tT W Φ t)) (hs : swB X.env.scope ex tg = false) (hc : notComp ex = true) (hw : swp X.env.scope [tg] ex = some none) (hp : plB tg = true) :
    PS X (.Assign [tg] ex pos) (tW W fun ρ E => Wg.wX Φ e ρ fun s ρ1 => Wg.wT Φ t s ρ1 E.nx) := by
  refine PS.imp (ps_asg he hg (by show swapsWith ex (some tg) pos.line X.env = pure false; rw [swapsWith_eq hk hc, hs]) (swp_eq hk hw) ?_) asg_imp
  cases tg <;> first | rfl | cases hp
theorem snd_par2 {i j : Nat} (ki : W.keep i = none) (kj : W.keep j = none) {x y : Str} {a b : Expr} {px py pt : Pos} {kt k2 pt2} {e1 e2 : Ex} (g : Good T W Φ N X) (hk : X.env.scope.kind = .function) (hi : X.N[i]? = some x) (hj : X.N[j]? = some y) (hxy : x ≠ y)
    (hx : X.env.scope.names.lookup x = some .local) (hy : X.env.scope.names.lookup y = some .local) (ha : PA X [a, b] (tVs W Φ (.c e1 (.c e2 .n))))
    (hw : swp X.env.scope [.Tuple [.Name x px, .Name y py] kt pt] (.Tuple [a, b] k2 pt2) = some (some [x, y])) :
    PS X (.Assign [.Tuple [.Name x px, .Name y py] kt pt] (.Tuple [a, b] k2 pt2) pos) (tW W fun ρ E => Wg.wX Φ (.tup (.c e1 (.c e2 .n))) ρ fun s ρ1 => Wg.wT Φ (.tp (.c (.nm i) (.c (.nm j) .n))) s ρ1 E.nx) := by
  have hij : i ≠ j := fun z => by subst z; rw [hi] at hj; exact hxy (Option.some.inj hj)
  refine PS.imp (ps_par g.calm (g.hN ▸ g.nd) hi hj hij hx hy ha (swp_eq hk hw)) fun D σ H ⟨Z, S, ρ, E, r, hq, f⟩ => ?_
  unfold Wg.wX at hq
  refine ⟨Z, S, ρ, _, r, hq, fun vs H1 S1 ρ1 ds e1 r1 rs hn q => ?_⟩
  obtain ⟨q1, q⟩ := (show ds.length = 2 ∧ Wg.wTs Φ (.c (.nm i) (.c (.nm j) .n)) ds ρ1 E.nx from q)
  cases rs with
  | nil => cases q1
  | cons h1 rs =>
    cases rs with
    | nil => cases q1
    | cons h2 rs =>
      cases rs with
      | cons h3 rs => simp at q1
      | nil =>
        rename_i d1 v1 d2 v2
        refine ⟨_, _, rfl, f.nx _ H1 S1 _ e1 ((r1.set (s := .sh _) ki h1).set (s := .sh _) kj h2) q⟩
theorem snd_par3 {i j l : Nat} (ki : W.keep i = none) (kj : W.keep j = none) (kl : W.keep l = none) {x y z : Str} {a b c : Expr} {px py pz pt : Pos} {kt k2 pt2} {e1 e2 e3 : Ex} (g : Good T W Φ N X) (hk : X.env.scope.kind = .function) (hi : X.N[i]? = some x) (hj : X.N[j]? = some y) (hl : X.N[l]? = some z) (hxy : x ≠ y) (hxz : x ≠ z) (hyz : y ≠ z)
    (hx : X.env.scope.names.lookup x = some .local) (hy : X.env.scope.names.lookup y = some .local) (hz : X.env.scope.names.lookup z = some .local) (ha : PA X [a, b, c] (tVs W Φ (.c e1 (.c e2 (.c e3 .n)))))
    (hw : swp X.env.scope [.Tuple [.Name x px, .Name y py, .Name z pz] kt pt] (.Tuple [a, b, c] k2 pt2) = some (some [x, y, z])) :
    PS X (.Assign [.Tuple [.Name x px, .Name y py, .Name z pz] kt pt] (.Tuple [a, b, c] k2 pt2) pos) (tW W fun ρ E => Wg.wX Φ (.tup (.c e1 (.c e2 (.c e3 .n)))) ρ fun s ρ1 => Wg.wT Φ (.tp (.c (.nm i) (.c (.nm j) (.c (.nm l) .n)))) s ρ1 E.nx) := by
  have hij : i ≠ j := fun z => by subst z; rw [hi] at hj; exact hxy (Option.some.inj hj)
  have hil : i ≠ l := fun z => by subst z; rw [hi] at hl; exact hxz (Option.some.inj hl)
  have hjl : j ≠ l := fun z => by subst z; rw [hj] at hl; exact hyz (Option.some.inj hl)
  refine PS.imp (ps_par3 g.calm (g.hN ▸ g.nd) hi hj hl hij hil hjl hx hy hz ha (swp_eq hk hw)) fun D σ H ⟨Z, S, ρ, E, r, hq, f⟩ => ?_
  unfold Wg.wX at hq
  refine ⟨Z, S, ρ, _, r, hq, fun vs H1 S1 ρ1 ds e1 r1 rs hn q => ?_⟩
  obtain ⟨q1, q⟩ := (show ds.length = 3 ∧ Wg.wTs Φ (.c (.nm i) (.c (.nm j) (.c (.nm l) .n))) ds ρ1 E.nx from q)
  cases rs with
  | nil => cases q1
  | cons h1 rs =>
    cases rs with
    | nil => cases q1
    | cons h2 rs =>
      cases rs with
      | nil => cases q1
      | cons h3 rs =>
        cases rs with
        | cons h4 rs => simp at q1
        | nil => exact ⟨_, _, _, rfl, f.nx _ H1 S1 _ e1 (((r1.set (s := .sh _) ki h1).set (s := .sh _) kj h2).set (s := .sh _) kl h3) q⟩
/-! ### op= -/
def ipR (o : BOp) : TIp := fun x y H Q => ∃ i j, x = .int i ∧ y = .int j ∧ match o with
  | .add => Q (.int (i + j)) H
  | .sub => Q (.int (i - j)) H
  | .mul => Wg.okMul i j ∧ Q (.int (i * j)) H
  | _ => False
theorem ip_R (o : BOp) : PIp X (opOf o) (ipR o) := by
  intro pins s σ H x y v u Q I r1 r2 h
  obtain ⟨i, j, rfl, rfl, q⟩ := h
  obtain ⟨t, rfl⟩ := r1
  obtain ⟨t', rfl⟩ := r2
  cases o with
  | add => exact iadd_int ⟨.int _, H, I.tok _, ⟨_, rfl⟩, q⟩
  | sub => exact isub_int ⟨.int _, H, I.tok _, ⟨_, rfl⟩, q⟩
  | mul => exact imul_int ⟨.int _, H, I.tok _, ⟨_, rfl⟩, q.2⟩ (okMul_ok q.1)
  | fdiv => exact q.elim
  | mod => exact q.elim
theorem snd_aug {i : Nat} {o : BOp} (hk : W.keep i = none) (g : Good T W Φ N X) (hi : X.N[i]? = some x) (hl : Loc X.env.scope x) (hf : X.fn x = true ∨ X.env.scope.names.lookup x = some .local) (he : PE X ex (tX W Φ e)) :
    PS X (.AugAssign (.Name x np) (opOf o) ex pos) (tW W fun ρ E => Wg.wS Φ (.aug i o e) ρ E) := by
  refine PS.imp (ps_aug (g.hN ▸ g.nd) hi hl he (ip_R o) hf) fun D σ H ⟨Z, S, ρ, E, r, hw, f⟩ => ?_
  unfold Wg.wS at hw
  obtain ⟨v, hv⟩ : ∃ v, σ[i]? = some (some v) := by
    refine r.live ?_
    unfold Wg.peek at hw
    unfold Wg.live
    split at hw <;> rename_i q <;> first | (rw [q]; trivial) | exact hw.elim
  obtain ⟨x', hw, rx⟩ := RepO.get (o := .r i) r hv hw
  refine ⟨v, hv, Z, S, ρ, _, r, hw, fun y H1 S1 ρ1 s e1 r1 ry q => ?_⟩
  obtain ⟨S2, e2, r2, ry⟩ := fin_val r1 ry
  revert q ry
  generalize s.val = sv
  intro q ry
  split at q
  · cases rx.int
    cases ry
    exact ⟨_, _, rfl, rfl, f.nx _ H1 S2 _ (e1.trans e2) (r2.set (s := .sh (.int _)) hk (Rep.int _)) q⟩
  · cases rx.int
    cases ry
    exact ⟨_, _, rfl, rfl, f.nx _ H1 S2 _ (e1.trans e2) (r2.set (s := .sh (.int _)) hk (Rep.int _)) q⟩
  · cases rx.int
    cases ry
    exact ⟨_, _, rfl, rfl, q.1, f.nx _ H1 S2 _ (e1.trans e2) (r2.set (s := .sh (.int _)) hk (Rep.int _)) q.2⟩
  · exact q.elim
/-! ### other small ones -/
theorem snd_exp (he : PE X ex (tX W Φ e)) (hs : swapsWith ex none pos.line X.env = pure false) : PS X (.Expr ex pos) (tW W fun ρ E => Wg.wX Φ e ρ fun _ ρ1 => E.nx ρ1) :=
  PS.imp (ps_expr he hs) fun D σ H ⟨Z, S, ρ, E, r, hw, f⟩ => ⟨Z, S, ρ, _, r, hw, fun v H1 S1 ρ1 s e1 r1 rv q => f.nx σ H1 S1 ρ1 e1 r1 q⟩
theorem snd_ret (he : PE X ex (tX W Φ e)) : PS X (.Return (some ex) pos) (tW W fun ρ E => Wg.wX Φ e ρ fun s ρ1 => E.rt s.val ρ1) :=
  PS.imp (ps_ret he) fun D σ H ⟨Z, S, ρ, E, r, hw, f⟩ => ⟨Z, S, ρ, _, r, hw, fun v H1 S1 ρ1 s e1 r1 rv q => by
    obtain ⟨S2, e2, r2, rv2⟩ := fin_val r1 rv
    exact f.rt v H1 S2 ρ1 σ s.val (e1.trans e2) r2 rv2 q⟩
theorem snd_if {cx : Expr} (hc : PT X cx (tBl W Φ c)) (ha : PSs X st (tW W w)) (hb : PSs X st2 (tW W u)) : PS X (.If cx st st2 pos) (tW W fun ρ E => Wg.wX Φ c ρ fun s ρ1 => Wg.onB s fun t => bif t then w ρ1 E else u ρ1 E) :=
  PS.imp (ps_if hc ha hb) fun D σ H ⟨Z, S, ρ, E, r, hw, f⟩ => ⟨Z, S, ρ, fun t ρ1 => bif t then w ρ1 E else u ρ1 E, r, hw, fun t H1 S1 ρ1 e1 r1 q => by
    cases t with
    | true => exact ⟨Z, S1, ρ1, E, r1, q, f.ext e1⟩
    | false => exact ⟨Z, S1, ρ1, E, r1, q, f.ext e1⟩⟩
theorem snd_brk : PS X (.Break pos) (tW W fun ρ E => E.bk ρ) := PS.imp ps_break fun D σ H ⟨Z, S, ρ, E, r, hw, f⟩ => f.bk σ H S ρ .refl r hw
theorem snd_cnt : PS X (.Continue pos) (tW W fun ρ E => E.ct ρ) := PS.imp ps_continue fun D σ H ⟨Z, S, ρ, E, r, hw, f⟩ => f.ct σ H S ρ .refl r hw
theorem snd_rse {s : Stmt} : PS X s (tW W fun _ _ => False) := PS.imp ps_never fun D σ H ⟨Z, S, ρ, E, r, hw, f⟩ => hw.elim
/-! ### loops -/
theorem snd_whl {cx : Expr} (g : Good T W Φ N X) (hc : PT X cx (tBl W Φ c)) (hb : PSs X st (tW W w)) :
    PS X (.While cx st [] pos) (tW W fun ρ E => ∃ n, Wg.whW (fun ρ Q => Wg.wX Φ c ρ fun s ρ1 => Wg.onB s fun t => Q t ρ1) (fun ρ E => w ρ E) E n ρ) := by
  have never : PassesOwn (model X.prog X.w) X.A X.env X.xe := by rw [g.xe]; exact PySem.PassesOwn.never
  refine PS.imp (ps_while never hc hb) fun D σ H ⟨Z, S, ρ, E, r, ⟨n, hw⟩, f⟩ => ?_
  refine ⟨fun m σ1 H1 => ∃ S1 ρ1, Ext Z S H S1 H1 ∧ R W Z S1 ρ1 σ1 H1 ∧ Wg.whW (fun ρ Q => Wg.wX Φ c ρ fun s ρ1 => Wg.onB s fun t => Q t ρ1) (fun ρ E => w ρ E) E m ρ1, ⟨n, S, ρ, .refl, r, hw⟩, fun m σ1 H1 ⟨S1, ρ1, e1, r1, h1⟩ => ?_⟩
  cases m with
  | zero => exact (show False from h1).elim
  | succ m =>
    refine ⟨Z, S1, ρ1, fun t ρ2 => bif t then w ρ2 ⟨_, E.rt, E.nx, _⟩ else E.nx ρ2, r1, h1, fun t H2 S2 ρ2 e2 r2 q => ?_⟩
    cases t with
    | false => exact f.nx σ1 H2 S2 ρ2 (e1.trans e2) r2 q
    | true =>
      refine ⟨fun σ' H' => ∃ S1 ρ1, Ext Z S H S1 H' ∧ R W Z S1 ρ1 σ' H' ∧ Wg.whW (fun ρ Q => Wg.wX Φ c ρ fun s ρ1 => Wg.onB s fun t => Q t ρ1) (fun ρ E => w ρ E) E m ρ1, fun σ' H' h => ⟨m, Nat.lt_succ_self m, h⟩, Z, S2, ρ2, _, r2, q, ?_⟩
      have e12 := e1.trans e2
      exact ⟨fun σ' H' S' ρ' e3 r3 q3 => ⟨S', ρ', e12.trans e3, r3, q3⟩, fun v H' S' ρ' σ' d e3 r3 rv q3 => f.rt v H' S' ρ' σ' d (e12.trans e3) r3 rv q3, fun σ' H' S' ρ' e3 r3 q3 => f.nx σ' H' S' ρ' (e12.trans e3) r3 q3,
        fun σ' H' S' ρ' e3 r3 q3 => ⟨S', ρ', e12.trans e3, r3, q3⟩⟩
theorem snd_for {it : Wg.It} {tg iter : Expr} (g : Good T W Φ N X) (hi : PI X tg iter (tI W Φ it)) (hg : PG X tg (tT W Φ t)) (hb : PSs X st (tW W w)) (hp : plB iter = true) (hz : zipB it t = true) :
    PS X (.For tg iter st [] pos) (tW W fun ρ E => Wg.wI Φ it ρ fun items ρ1 => Wg.foW (fun x ρ E => Wg.wT Φ t (.sh x) ρ fun ρ' => w ρ' E) E items ρ1) := by
  have never : PassesOwn (model X.prog X.w) X.A X.env X.xe := by rw [g.xe]; exact PySem.PassesOwn.never
  refine lockS (it := it) ?_ fun i ρ l Q ei hs hw => by
    subst ei
    exact wI_frz hs hw
  refine PS.imp (ps_for never g.calm hi hg hb (folded_pl hp)) fun D σ H ⟨Z, S, ρ, E, r, lk, hw, f⟩ => ?_
  refine ⟨Z, S, ρ, _, r, lk, hw, fun J H1 S1 ρ1 items e1 r1 wk sm q => ?_⟩
  obtain ⟨G, Y, wlk, hG, hY⟩ := wk
  refine for_it wlk (fun i σ2 H2 => ∃ S2 ρ2, Ext Z S1 H1 S2 H2 ∧ R W Z S2 ρ2 σ2 H2 ∧ Wg.foW (fun x ρ E => Wg.wT Φ t (.sh x) ρ fun ρ' => w ρ' E) E (items.drop i) ρ2) ⟨S1, ρ1, .refl, r1, q⟩
    (fun i σ2 H2 _ ⟨S2, ρ2, e2, _⟩ => hG S2 H2 fun a ha => e2.s a ha) (fun i x σ2 H2 H3 hi ⟨S2, ρ2, e2, r2, q2⟩ y => ?_) (fun σ2 H2 ⟨S2, ρ2, e2, r2, q2⟩ => ?_)
  · rw [List.drop_eq_getElem_cons hi] at q2
    have q2 := (show Wg.wT Φ t (.sh items[i]) ρ2 _ from q2)
    have step : ∀ σ3 H4 S4 ρ4, Ext Z S2 H2 S4 H4 → R W Z S4 ρ4 σ3 H4 → w ρ4 ⟨Wg.foW (fun x ρ E => Wg.wT Φ t (.sh x) ρ fun ρ' => w ρ' E) E (items.drop (i + 1)), E.rt, E.nx, Wg.foW (fun x ρ E => Wg.wT Φ t (.sh x) ρ fun ρ' => w ρ' E) E (items.drop (i + 1))⟩ →
        tW W w { D with nx := fun σ2 H2 => ∃ S2 ρ2, Ext Z S1 H1 S2 H2 ∧ R W Z S2 ρ2 σ2 H2 ∧ Wg.foW (fun x ρ E => Wg.wT Φ t (.sh x) ρ fun ρ' => w ρ' E) E (items.drop (i + 1)) ρ2, ct := fun σ2 H2 => ∃ S2 ρ2, Ext Z S1 H1 S2 H2 ∧ R W Z S2 ρ2 σ2 H2 ∧ Wg.foW (fun x ρ E => Wg.wT Φ t (.sh x) ρ fun ρ' => w ρ' E) E (items.drop (i + 1)) ρ2, bk := D.nx } σ3 H4 := fun σ3 H4 S4 ρ4 e4 r4 q4 => by
      have e24 := e2.trans e4
      have e14 := e1.trans e24
      exact ⟨Z, S4, ρ4, _, r4, q4, ⟨fun σ' H' S' ρ' e3 r3 q3 => ⟨S', ρ', e24.trans e3, r3, q3⟩, fun v H' S' ρ' σ' d e3 r3 rv q3 => f.rt v H' S' ρ' σ' d (e14.trans e3) r3 rv q3,
        fun σ' H' S' ρ' e3 r3 q3 => f.nx σ' H' S' ρ' (e14.trans e3) r3 q3, fun σ' H' S' ρ' e3 r3 q3 => ⟨S', ρ', e24.trans e3, r3, q3⟩⟩⟩
    rcases hY S2 H2 i x H3 (fun a ha => e2.s a ha) hi y with ⟨rfl, d, hd2, rx⟩ | ⟨hz2, P, v1, w1, d, e', rfl, hP, rfl, hd2, rv1, rw1⟩
    · have : items[i] = d := by rw [List.getElem?_eq_getElem hi] at hd2; exact Option.some.inj hd2
      rw [this] at q2
      exact ⟨Z, S2, ρ2, .sh d, _, r2, .inl rx, q2, fun σ3 H4 S4 ρ4 e4 r4 _ q4 => step σ3 H4 S4 ρ4 e4 r4 q4⟩
    · have : items[i] = .tup [d, e'] := by rw [List.getElem?_eq_getElem hi] at hd2; exact Option.some.inj hd2
      rw [this] at q2
      have oP := r2.own_new hP
      have eP := Ext.upd (H := H2) oP (.tup [v1, w1])
      have rP := r2.upd oP (r2.noOwn_new hP) (.tup [v1, w1])
      exact ⟨Z, S2, ρ2, .sh (.tup [d, e']), _, rP, .inr ⟨zipB_tp hz hz2, P, [v1, w1], [d, e'], rfl, rfl, .inl (.inl upd_same), Reps.mono eP.s _ _ (.cons rv1 (.cons rw1 .nil))⟩, q2, fun σ3 H4 S4 ρ4 e4 r4 _ q4 => step σ3 H4 S4 ρ4 (eP.trans e4) r4 q4⟩
  · rw [List.drop_length] at q2
    exact f.nx σ2 H2 S2 ρ2 (e1.trans e2) r2 q2
end
end WgS
set_option Elab.async false
set_option linter.all false
set_option maxRecDepth 100000
set_option maxHeartbeats 1000000
/-! WgS: tuple(range(..)), sorted(set(..)). -/
namespace WgS
open PySem PySem.Spec PyProof.Rows L2
open Wg (D Slot Opd Ex Exs Tg Tgs Kvs Sts BOp COp Blt Mth LB)
section
variable {T : Tab} {X : Cx} {W : Wd} {Φ : Wg.Ctx} {N : List Str} {e z : Expr} {pos np np2 pos2 : Pos} {a : Ex} {es : Exs} {xs : List Expr}
/-! ### a range, made a tuple or a list -/
def tRgO (W : Wd) (Φ : Wg.Ctx) (es : Exs) : L2.St → Hp → (Int → Int → Hp → Prop) → Prop := fun σ H Q => ∃ Z S ρ, ∃ Qr : List D → Wg.Env → Prop, R W Z S ρ σ H ∧ (Wg.wOs Φ es ρ fun os ρ1 => Wg.gets ρ1 os fun ds => Wg.rngV ds fun l => Qr l ρ1) ∧
  ∀ i j H' S' ρ', Ext Z S H S' H' → R W Z S' ρ' σ H' → RgOk i j → Qr (Wg.rangeD i j) ρ' → Q i j H'
theorem rgOk_of {i j : Int} (h1 : -1000000 ≤ i) (h2 : i ≤ 1000000) (h3 : -1000000 ≤ j) (h4 : j ≤ 1000000) : RgOk i j := ⟨by omega, by omega, by omega, by omega, by omega⟩
theorem prgO1 {x : Expr} {b : Ex} (g : Good T W Φ N X) (hg : Gl X "range") (ha : PE X x (tO W Φ b)) (hp : plB x = true) : PRg X (.Call (.Name "range" np) [x] [] pos) (tRgO W Φ (.c b .n)) := by
  intro pins s σ H Q I ⟨Z, S, ρ, Qr, r, hw, k⟩
  refine prg_1 hg g.rng ha (star_pl hp) pins s σ H Q I ?_
  unfold Wg.wOs at hw
  refine ⟨Z, S, ρ, _, r, hw, fun v H1 S1 ρ1 o e1 r1 rv q => ?_⟩
  unfold Wg.wOs at q
  dsimp only at q
  obtain ⟨ds, q, rd⟩ := RepOs.get r1 (.cons rv .nil) q
  have hl := rd.length
  unfold Wg.rngV at q
  split at q
  · rename_i j
    obtain ⟨q1, q2, q3⟩ := q
    unfold LB at q1
    have ev := rd.int1
    cases ev
    exact ⟨j, rfl, k 0 j H1 S1 ρ1 e1 r1 (rgOk_of (by omega) (by omega) q2 q1) q3⟩
  · cases hl
  · cases hl
  · exact q.elim
theorem prgO2 {x y : Expr} {b c : Ex} (g : Good T W Φ N X) (hg : Gl X "range") (ha : PE X x (tO W Φ b)) (hb : PE X y (tO W Φ c)) (hp : plB x = true) (hp2 : plB y = true) : PRg X (.Call (.Name "range" np) [x, y] [] pos) (tRgO W Φ (.c b (.c c .n))) := by
  intro pins s σ H Q I ⟨Z, S, ρ, Qr, r, hw, k⟩
  refine prg_2 hg g.rng ha hb (star_pl hp) (star_pl hp2) (plAll_star (by simp [hp2]) pos).2 pins s σ H Q I ?_
  unfold Wg.wOs at hw
  refine ⟨Z, S, ρ, _, r, hw, fun v H1 S1 ρ1 o e1 r1 rv q => ?_⟩
  unfold Wg.wOs at q
  refine ⟨Z, S1, ρ1, _, r1, q, fun v2 H2 S2 ρ2 o2 e2 r2 rv2 q => ?_⟩
  unfold Wg.wOs at q
  dsimp only at q
  obtain ⟨ds, q, rd⟩ := RepOs.get r2 (.cons (RepO.ext e2 rv) (.cons rv2 .nil)) q
  have hl := rd.length
  unfold Wg.rngV at q
  split at q
  · cases hl
  · rename_i i j
    obtain ⟨q1, q2, q3, q4, q5⟩ := q
    unfold LB at q1 q3
    have ev := rd.int2
    cases ev
    exact ⟨i, j, rfl, rfl, k i j H2 S2 ρ2 (e1.trans e2) r2 (rgOk_of q2 q3 q4 q1) q5⟩
  · cases hl
  · exact q.elim
theorem pe_tupRgF {te : L2.St → Hp → (Int → Int → Hp → Prop) → Prop} {p pos : Pos} (hc : X.calm = true) (hg : Gl X "tuple") (hm : X.mg "tuple" = none) (he : PRg X e te) (na : starEach [e] X.env = (false, eval e X.env) :: starEach [] X.env) :
    PE X (.Call (.Name "tuple" p) [e] [] pos) (fun σ H Q => te σ H fun a b H1 => RgOk a b ∧ ∀ q ob, ob.dict = none → H1 q = none → Q (.ref q) (upd H1 q (.frz ob (.tup (rgV a b))))) := by
  refine ⟨fun pins s σ H Q I h => ?_⟩
  refine Call_ (ld_blt I hg hm boot_tuple (PyProof.Rows.callWith_type1 (args_cons (thn (he pins s σ H _ I h) fun x s1 ⟨r, a, b, t, u, v, H1, ex, hr, I1, ok, q⟩ => args_nil ?_) na) na rfl))
  subst ex
  obtain ⟨b1, b2, b3, b4, b5⟩ := ok
  refine call_tuple_range (n := (b - a).toNat) (I1.ok.hd hc) hr (small_one b1 b2 b3 b4) (rangeSize_nat a b) b5 fun h' tk acc hk hi => ?_
  have I2 : Inv X pins σ H1 { s1 with heap := h', toks := tk } := I1.kept hk
  have I3 := laidT (t' := tk) (its := acc.toList) I2 (vals_rg hi) (by rw [rgV_length, sizeLine_eq]; omega)
  rw [Array.toArray_toList] at I3
  exact ⟨.ref h'.objs.size, _, I3, rfl, q _ _ rfl (I2.hok.fresh (Nat.le_refl _))⟩
theorem reps_rg {S : AS} {H : Hp} (i j : Int) : Reps W S H (rgV i j) (Wg.rangeD i j) := by
  unfold rgV Wg.rangeD
  induction List.range (j - i).toNat with
  | nil => exact .nil
  | cons k l ih => exact .cons (.int _) ih
theorem snd_rngT (g : Good T W Φ N X) (hg : Gl X "tuple") (hm : X.mg "tuple" = none) (he : PRg X e (tRgO W Φ es)) (hp : plB e = true) : PE X (.Call (.Name "tuple" np) [e] [] pos) (tX W Φ (.rng true es)) := by
  refine PE.imp (pe_tupRgF g.calm hg hm he (star_pl hp)) fun σ H Q ⟨Z, S, ρ, Qs, r, hw, k⟩ => ?_
  unfold Wg.wX at hw
  refine ⟨Z, S, ρ, fun l ρ1 => Qs (.sh (.tup l)) ρ1, r, hw, fun i j H1 S1 ρ1 e1 r1 ok q => ⟨ok, fun p ob hd hp => ?_⟩⟩
  exact Res.tup (Q := Q) (Qs := fun s => Qs s ρ1) (fun v H' S' s e2 r2 rv q => k v H' S' ρ1 s (e1.trans e2) r2 rv q) r1 hd hp (reps_rg i j) q
theorem snd_rngL (g : Good T W Φ N X) (hg : Gl X "list") (hm : X.mg "list" = none) (he : PRg X e (tRgO W Φ es)) (hp : plB e = true) : PE X (.Call (.Name "list" np) [e] [] pos) (tX W Φ (.rng false es)) := by
  refine PE.imp (pe_listRg g.calm hg hm he (star_pl hp)) fun σ H Q ⟨Z, S, ρ, Qs, r, hw, k⟩ => ?_
  unfold Wg.wX at hw
  refine ⟨Z, S, ρ, fun l ρ1 => Qs (.ol l) ρ1, r, hw, fun i j H1 S1 ρ1 e1 r1 ok q => ⟨ok, fun p hp => ?_⟩⟩
  exact Res.lst (Q := Q) (Qs := fun s => Qs s ρ1) (fun v H' S' s e2 r2 rv q => k v H' S' ρ1 s (e1.trans e2) r2 rv q) r1 hp (reps_rg i j) q
end
end WgS
set_option Elab.async false
set_option linter.all false
set_option maxRecDepth 100000
set_option maxHeartbeats 4000000
/-! WgS: sorted(set(a list of ints)), len(set(..)). -/
namespace WgS
open PySem PySem.Spec PyProof.Rows L2
open Wg (D Slot Opd Ex Exs Tg Tgs Kvs Sts BOp COp Blt Mth LB)
section
variable {P : Program} {w : World} {A : Around} {E : Value → Shared → Prop} {s : Shared}
abbrev newSet (w : World) : Obj := { cls := .type "set", dict := none, data := .set #[] 0 (.fresh 0 0 (!w.params.followText "set-order")) }
theorem call_set_lstI {a : Addr} {vs : Array Value} (ns : List Int) {Q : Value → Shared → Prop} (calm : A.handled = none) (la : s.heap.IsList a vs) (are : IntsAre vs.toList ns) (few : ns.length + 1 < scanBound)
    (go : ∀ (g : Heap) (tk c : Nat), SetR w g s.heap.objs.size (fun j => decide (j ∈ ns)) c → c ≤ ns.length → (∀ b o, s.heap.get? b = some o → g.get? b = some o) → Q (.ref s.heap.objs.size) { s with heap := g, toks := tk }) :
    wpAny (model P w) A (call (.type "set") [.ref a]) Q E s := by
  have size : vs.size = ns.length := by rw [← Array.length_toList]; exact IntsAre.length are
  obtain ⟨c, tl, mro⟩ := F.called_set.mro
  have made := F.called_set.made
  have sub := F.called_set.sub
  refine wpAny_call (codeAny_of_tree ?_)
  show wpAny _ _ (callAny (.type "set") _) _ _ _
  refine wpAny_pure ⟨Code.quiet_builtin _ (by decide +kernel), codeAny_builtin F.entry_type_call ?_⟩
  rw [Around.under_plain (weight_type_call_type "set" [.ref a] []) rfl]
  have n1 := F.called_set.notType
  have n2 := F.called_set.canCreate
  have ct := F.typeCall_set_1 (.ref a)
  repeat (any_goals (first | assumption | wp_step))
  refine codeAny_mono (code_set_led1 (.ref a) (E := E) (Q₁ := fun z t => z = .ref s.heap.objs.size ∧ t = { s with heap := s.heap.push (newSet w) }) ⟨rfl, rfl⟩) fun r t hr => ?_
  cases r with
  | error e => exact hr
  | ok fl =>
    cases fl with
    | ret z =>
      obtain ⟨rfl, rfl⟩ := hr
      have gs : (s.heap.push (newSet w)).get? s.heap.objs.size = some (newSet w) := Heap.get?_push_size _ rfl
      have ts : Shared.TypeIs { s with heap := s.heap.push (newSet w) } (.ref s.heap.objs.size) "set" := ⟨_, gs, rfl⟩
      have li := F.called_set.init.lookup
      have bi := F.called_set.init.bind (.ref s.heap.objs.size)
      repeat (any_goals (first | assumption | wp_step))
      refine codeAny_mono (codeAny_call_builtin (R := wants (fun r t => r = .none ∧ ∃ g tk c, t = { s with heap := g, toks := tk } ∧ SetR w g s.heap.objs.size (fun j => decide (j ∈ ns)) c ∧ c ≤ ns.length ∧
          (∀ b o, s.heap.get? b = some o → g.get? b = some o)) E) F.called_set.init.plain F.entry_set_init (check_set_init_1 ts ?_)) fun r2 t2 hr2 => ?_
      · obtain ⟨oa, ga, ca, na, da⟩ := la
        obtain ⟨c0, d0, x0, sl0⟩ := oa
        simp only at ca da
        subst ca; subst da
        have ga1 : (s.heap.push (newSet w)).get? a = some { cls := .type "list", dict := d0, data := .seq vs na, slots := sl0 } := Heap.get?_push_of_some _ ga
        have s1 := F.sub_list_set
        have s2 := F.sub_list_frozenset
        have nd : (Value.type "list" == Value.type "dict") = false := by decide
        have la1 : (s.heap.push (newSet w)).IsList a vs := ⟨_, ga1, rfl, na, rfl⟩
        unfold Builtin.«set.__init__» noKeywords Builtin.Frozenset.updateFrom
        generalize hPI : pyIter = PI
        wp_walk
        subst hPI
        refine wpAny_pyIter_list la1 ?_
        refine wpAny_bind (wpAny_runValue ?_)
        have low : a < s.heap.objs.size := Heap.lt_size ga
        have calm3 : A.in1.in1.in1.handled = none := by simp [calm]
        have z1 : (s.heap.push (newSet w)).objs.size = s.heap.objs.size + 1 := Heap.size_push ..
        have ne : a ≠ (s.heap.push (newSet w)).objs.size := fun q => absurd (show a < s.heap.objs.size + 1 from Nat.lt_succ_of_lt low) (by rw [q, z1]; exact Nat.lt_irrefl _)
        have nf : s.heap.objs.size ∉ [(s.heap.push (newSet w)).objs.size, a] := by
          intro h
          rcases List.mem_cons.mp h with q | q
          · rw [z1] at q; exact absurd q (Nat.ne_of_lt (Nat.lt_succ_self _))
          · have q : s.heap.objs.size = a := by simpa using q
            exact absurd low (by rw [q]; exact Nat.lt_irrefl _)
        have val : ∀ (i : Nat) (v : Value), vs[i]? = some v → ∃ k t, ns[i]? = some k ∧ v = .int k t := fun i v hv => by
          have hi : i < ns.length := size ▸ (Array.getElem?_eq_some_iff.mp hv).1
          obtain ⟨t, e⟩ := PyProof.Rows.IntsAre.int_at are i v (by rw [Array.getElem?_toList]; exact hv)
          exact ⟨ns[i], t, List.getElem?_eq_getElem hi, by rw [e, List.getD_eq_getElem?_getD, List.getElem?_eq_getElem hi] <;> rfl⟩
        refine set_update_ints ((Walks.list calm3 _ a ne vs).toS) s.heap.objs.size nf ns size few val (vs.size - 0) 0 _ (by omega) (Nat.zero_le _) ⟨⟨_, Heap.get?_push_size _ rfl, rfl, rfl⟩, la1.push _⟩ ?start ?done
        case start => exact ⟨0, Nat.le_refl 0, setR_new_at (Heap.get?_push_of_some _ gs)⟩
        case done =>
          intro t3 c3 mv few3 fin
          obtain ⟨g, g2, d3, tk, o3⟩ := t3
          have eg : g2 = s.gens := mv.gens
          have ed : d3 = s.drawn := mv.drawn
          have eo : o3 = s.os := mv.os
          subst eg; subst ed; subst eo
          show wpAny _ _ _ _ _ _
          refine wpAny_pure ?_
          show wpAny _ _ (ret Value.none) _ _ _
          refine wpAny_pure ⟨rfl, g, tk, c3, rfl, fin, size ▸ few3, fun b o e => ?_⟩
          have lb : b < s.heap.objs.size := Heap.lt_size e
          refine mv.heap b o (fun h => ?_) (Heap.get?_push_of_some _ (Heap.get?_push_of_some _ e))
          rcases List.mem_cons.mp h with q | q
          · exact absurd lb (by rw [q]; exact Nat.lt_irrefl _)
          · have q : b = (s.heap.push (newSet w)).objs.size := by simpa using q
            rw [z1] at q
            exact absurd (show b < s.heap.objs.size + 1 from Nat.lt_succ_of_lt lb) (by rw [q]; exact Nat.lt_irrefl _)
      · cases r2 with
        | error e => exact hr2
        | ok f2 =>
          cases f2 with
          | ret r =>
            obtain ⟨rfl, g, tk, c, rfl, fin, fc, kp⟩ := hr2
            repeat (any_goals (first | assumption | wp_step))
            exact go _ _ _ fin fc kp
          | _ => exact hr2.elim
    | _ => exact hr.elim
end
section
variable {T : Tab} {X : Cx} {W : Wd} {Φ : Wg.Ctx} {N : List Str} {z : Expr} {pos np np2 pos2 : Pos} {a : Ex} {ta : TE}
/-- set(..) of a list or a tuple of ints, then k -/
theorem set_then {p2 q : Pos} {pins : List (Addr × Obj)} {σ : L2.St} {H : Hp} {s : Shared} {Q : VK} {K : Value → Shared → Prop} {A : Around} (calm : A.handled = none) (I : Inv X pins σ H s) {v : Value} {l : Addr} {ns : List Int} (ev : v = .ref l) (hq : SqL X.K H l (ns.map V.int) ∨ SqT X.K H l (ns.map V.int)) (few : ns.length + 1 < scanBound)
    (go : ∀ (g : Heap) (tk c : Nat), SetR X.w g s.heap.objs.size (fun j => decide (j ∈ ns)) c → c ≤ ns.length → (∀ b o, s.heap.get? b = some o → g.get? b = some o) → K (.ref s.heap.objs.size) { s with heap := g, toks := tk }) : wpAny (model X.prog X.w) A (call (.type "set") [v]) K X.xe s := by
  subst ev
  rcases hq with hq | hq
  · obtain ⟨its, r, pl, hz⟩ := I.list hq
    exact call_set_lstI ns calm pl.isList (by simpa using ints_of_vals r) few go
  · obtain ⟨its, r, pl, hz⟩ := I.tuple hq
    exact call_set_tupI ns calm (show s.heap.IsTuple l its.toArray from pl) (by simpa using ints_of_vals r) few go
theorem pe_sortedSetA {p p2 q pos : Pos} (hc : X.calm = true) (hg : Gl X "sorted") (hm : X.mg "sorted" = none) (hg2 : Gl X "set") (hm2 : X.mg "set" = none) (ha : PE X z ta) (na : starEach [z] X.env = (false, eval z X.env) :: starEach [] X.env) :
    PE X (.Call (.Name "sorted" p) [.Call (.Name "set" p2) [z] [] q] [] pos) (fun σ H Q => ta σ H fun x H1 => ∃ (l : Addr) (ns : List Int), x = V.ref l ∧ (SqL X.K H1 l (ns.map V.int) ∨ SqT X.K H1 l (ns.map V.int)) ∧ ns.length < 64 ∧ ∀ p, H1 p = none → Q (.ref p) (upd H1 p (.lst ((Wg.sortSet ns).map V.int)))) := by
  refine ⟨fun pins s σ H Q I h => ?_⟩
  refine Call_ (ld_blt I hg hm (show bootBuiltins "sorted" = some (.builtin "sorted") by kernel_rfl) ?_)
  refine PyProof.Rows.callWith_builtin1 (PyProof.Rows.args_cons ?_ rfl) rfl rfl
  refine Call_ (ld_blt I hg2 hm2 PyProof.Rows.boot_set ?_)
  refine PyProof.Rows.callWith_type1 (PyProof.Rows.args_cons (thn (ha.run pins s σ H _ I h) fun v s1 ⟨x, H1, I1, r1, q1⟩ => PyProof.Rows.args_nil ?_) na) na rfl
  obtain ⟨l, ns, rfl, hq, h1, q1⟩ := q1
  refine set_then (p2 := p2) (q := q) (Q := Q) (I1.ok.hd hc) I1 (show v = .ref l from r1) hq (by unfold scanBound; omega) fun h' tk c hS hcl hk => ?_
  refine PyProof.Rows.args_nil ?_
  refine sorted_set (s := { s1 with heap := h', toks := tk }) hS (I1.ok.hd hc) (by omega) fun s' p out c' ms k gg o hp hgp hi hs hmem hl => ?_
  have em : ms = Wg.sortSet ns := Wg.sorted_uniq hs (Wg.sorted_sortSet ns) fun j => by rw [hmem j, Wg.mem_sortSet]; simp
  subst em
  have hlt : s1.heap.objs.size ≤ p := by
    obtain ⟨ob, _, _, _, ho, _⟩ := hS
    exact Nat.le_trans (Nat.le_of_lt (Heap.lt_size ho)) hp
  have hn : H1 p = none := I1.hok.fresh hlt
  have kk : ∀ b o, s1.heap.get? b = some o → s'.heap.get? b = some o := fun b o e => k b o (hk b o e)
  have hlen : ((Wg.sortSet ns).map V.int).length ≤ sizeLine := by rw [List.length_map, hl, sizeLine_eq]; omega
  exact ⟨.ref p, upd H1 p (.lst ((Wg.sortSet ns).map V.int)), I1.call' (ch := []) o (Un.laid kk hlt hn) (I1.hok.laid kk hlt (show ObjOk X.prog X.w _ _ _ (.lst _) from ⟨hlen, out.toList, c', vals_of_ints hi, hgp⟩)) (by rw [gg]; exact I1.bare) (fun _ z => nomatch z), rfl, q1 p hn⟩
theorem seq_ints {S : AS} {H : Hp} {v : V} {d : D} {l : List D} {ns : List Int} (hK : W.K = X.K) (h : RepT W S H v d) (hd : d = .tup l ∨ d = .lst l) (en : l.mapM Wg.intOf = some ns) : ∃ p, v = .ref p ∧ (SqL X.K H p (ns.map V.int) ∨ SqT X.K H p (ns.map V.int)) := by
  rcases hd with rfl | rfl
  · obtain ⟨p, ys, rfl, sq, rs⟩ := Rep.tupv h
    have ey := ints_of en rs
    subst ey
    exact ⟨p, rfl, .inr (hK ▸ sq)⟩
  · obtain ⟨p, ys, rfl, hp, rs⟩ := h.lst
    have ey := ints_of en rs
    subst ey
    exact ⟨p, rfl, .inl (hK ▸ SqL.of hp)⟩
theorem snd_ssetA (g : Good T W Φ N X) (hg : Gl X "sorted") (hm : X.mg "sorted" = none) (hg2 : Gl X "set") (ha : PE X z (tO W Φ a)) (hp : plB z = true) :
    PE X (.Call (.Name "sorted" np) [.Call (.Name "set" np2) [z] [] pos2] [] pos) (tX W Φ (.blt .sortedSet (.c a .n))) := by
  refine PE.imp (pe_sortedSetA g.calm hg hm hg2 g.st.set ha (star_pl hp)) fun σ H Q ⟨Z, S, ρ, Qs, r, hw, k⟩ => ?_
  unfold Wg.wX at hw
  unfold Wg.wOs at hw
  refine ⟨Z, S, ρ, _, r, hw, fun v H1 S1 ρ1 o e1 r1 rv q => ?_⟩
  unfold Wg.wOs at q
  dsimp only at q
  obtain ⟨ds, q, rd⟩ := RepOs.get r1 (.cons rv .nil) q
  cases rd with
  | cons h1 t =>
    cases t
    rename_i d
    have key : ∀ l, (d = .tup l ∨ d = .lst l) → (Wg.sisL l fun ns => Qs (.ol (ns.map .int)) ρ1) → ∃ (l : Addr) (ns : List Int), v = V.ref l ∧ (SqL X.K H1 l (ns.map V.int) ∨ SqT X.K H1 l (ns.map V.int)) ∧ ns.length < 64 ∧ ∀ p, H1 p = none → Q (.ref p) (upd H1 p (.lst ((Wg.sortSet ns).map V.int))) := fun l hd q => by
      unfold Wg.sisL at q
      split at q
      · rename_i ns en
        obtain ⟨p, rfl, sq⟩ := seq_ints g.hK h1 hd en
        exact ⟨p, ns, rfl, sq, q.1, fun p hp => Res.lst (Q := Q) (Qs := fun s => Qs s ρ1) (fun v H' S' s e2 r2 rv q => k v H' S' ρ1 s (e1.trans e2) r2 rv q) r1 hp (Reps.ints _) q.2⟩
      · exact q.elim
    cases d with
    | tup l => exact key l (.inl rfl) q
    | lst l => exact key l (.inr rfl) q
    | _ => exact (show False from q).elim
/-! ### len(set(..)) -/
theorem same_len : ∀ {a b : List Int}, a.Nodup → b.Nodup → (∀ k, k ∈ a ↔ k ∈ b) → a.length = b.length := fun {a b} ha hb h => (List.perm_iff_count.mpr fun k => by
  rw [ha.count, hb.count]
  by_cases c : k ∈ a
  · rw [if_pos c, if_pos ((h k).mp c)]
  · rw [if_neg c, if_neg fun d => c ((h k).mpr d)]).length_eq
theorem setR_len {w : World} {h : Heap} {b : Addr} {ns : List Int} {c : Nat} (R : SetR w h b (fun j => decide (j ∈ ns)) c) : c = (Wg.sortSet ns).length := by
  obtain ⟨o, es, ep, t, _, _, _, _, nd, mem, _, _, hn, _⟩ := R
  have e := same_len nd ((Wg.sorted_sortSet ns).imp fun h => Int.ne_of_lt h) fun k => by rw [← mem k, Wg.mem_sortSet]; simp
  rw [← e, List.length_map, ← hn, Array.length_toList]
theorem pe_lenSetA {p p2 q pos : Pos} (hc : X.calm = true) (hg : Gl X "len") (hm : X.mg "len" = none) (hg2 : Gl X "set") (hm2 : X.mg "set" = none) (ha : PE X z ta) (na : starEach [z] X.env = (false, eval z X.env) :: starEach [] X.env) :
    PE X (.Call (.Name "len" p) [.Call (.Name "set" p2) [z] [] q] [] pos) (fun σ H Q => ta σ H fun x H1 => ∃ (l : Addr) (ns : List Int), x = V.ref l ∧ (SqL X.K H1 l (ns.map V.int) ∨ SqT X.K H1 l (ns.map V.int)) ∧ ns.length < 64 ∧ Q (.int ((Wg.sortSet ns).length : Nat)) H1) := by
  refine ⟨fun pins s σ H Q I h => ?_⟩
  refine Call_ (ld_blt I hg hm boot_len ?_)
  refine PyProof.Rows.callWith_builtin1 (PyProof.Rows.args_cons ?_ rfl) rfl rfl
  refine Call_ (ld_blt I hg2 hm2 PyProof.Rows.boot_set ?_)
  refine PyProof.Rows.callWith_type1 (PyProof.Rows.args_cons (thn (ha.run pins s σ H _ I h) fun v s1 ⟨x, H1, I1, r1, q1⟩ => PyProof.Rows.args_nil ?_) na) na rfl
  obtain ⟨l, ns, rfl, hq, h1, q1⟩ := q1
  refine set_then (p2 := p2) (q := q) (Q := Q) (I1.ok.hd hc) I1 (show v = .ref l from r1) hq (by unfold scanBound; omega) fun h' tk c hS hcl hk => ?_
  refine PyProof.Rows.args_nil ?_
  have ec := setR_len hS
  obtain ⟨o, es, ep, t, ho, hex, hd, _, _, _, _, hf, hn, _⟩ := hS
  have I2 : Inv X pins σ H1 { s1 with heap := h', toks := tk } := I1.kept fun b o e => hk b o e
  exact call_len_set ho hex hd hf (by rw [hn]; omega) ⟨.int ((Wg.sortSet ns).length : Nat), H1, I2.tok _, ⟨_, by rw [hn, ec]⟩, q1⟩
theorem snd_lset (g : Good T W Φ N X) (hg : Gl X "len") (hm : X.mg "len" = none) (hg2 : Gl X "set") (ha : PE X z (tO W Φ a)) (hp : plB z = true) :
    PE X (.Call (.Name "len" np) [.Call (.Name "set" np2) [z] [] pos2] [] pos) (tX W Φ (.blt .lenSet (.c a .n))) := by
  refine PE.imp (pe_lenSetA g.calm hg hm hg2 g.st.set ha (star_pl hp)) fun σ H Q ⟨Z, S, ρ, Qs, r, hw, k⟩ => ?_
  unfold Wg.wX at hw
  unfold Wg.wOs at hw
  refine ⟨Z, S, ρ, _, r, hw, fun v H1 S1 ρ1 o e1 r1 rv q => ?_⟩
  unfold Wg.wOs at q
  dsimp only at q
  obtain ⟨ds, q, rd⟩ := RepOs.get r1 (.cons rv .nil) q
  cases rd with
  | cons h1 t =>
    cases t
    rename_i d
    have key : ∀ l, (d = .tup l ∨ d = .lst l) → (Wg.sisL l fun ns => Qs (.sh (.int ns.length)) ρ1) → ∃ (l : Addr) (ns : List Int), v = V.ref l ∧ (SqL X.K H1 l (ns.map V.int) ∨ SqT X.K H1 l (ns.map V.int)) ∧ ns.length < 64 ∧ Q (.int ((Wg.sortSet ns).length : Nat)) H1 := fun l hd q => by
      unfold Wg.sisL at q
      split at q
      · rename_i ns en
        obtain ⟨p, rfl, sq⟩ := seq_ints g.hK h1 hd en
        exact ⟨p, ns, rfl, sq, q.1, k _ H1 S1 ρ1 (.sh (.int _)) e1 r1 (Rep.int _) q.2⟩
      · exact q.elim
    cases d with
    | tup l => exact key l (.inl rfl) q
    | lst l => exact key l (.inr rfl) q
    | _ => exact (show False from q).elim
end
end WgS
set_option Elab.async false
set_option linter.all false
set_option maxRecDepth 100000
set_option maxHeartbeats 4000000
/-! WgS: dicts written out, dicts by comprehensions. -/
namespace WgS
open PySem PySem.Spec PyProof.Rows L2
open Wg (D Slot Opd Ex Exs Tg Tgs Kvs Sts BOp COp Blt Mth LB)
section
variable {J : L2.It} {n : Nat} {G : Hp → Prop} {Y : Nat → Hp → V → Hp → Prop}
/-- a dict's comprehension over a walk -/
theorem dc_it (wk : Walk J n G Y) {g : TG} {tt : TT} {tk tv : TE} {vs : List Nat} {σ : L2.St} {G1 : Hp} {B : Addr} {Qd : Hp → Prop} (P : Nat → Hp → Prop) (start : P 0 (upd G1 B (.dK []))) (stays : ∀ i G', i ≤ n → P i G' → G G')
    (turn : ∀ i x G' G2, i < n → P i G' → Y i G' x G2 → g x (wipe σ vs) G2 fun σ2 G3 => wipe σ2 vs = wipe σ vs ∧ tt σ2 G3 fun b G4 =>
      if b = true then tk σ2 G4 fun y G5 => tv σ2 G5 fun z G6 => ∃ ks k, y = kV k ∧ G6 B = some (.dK ks) ∧ ks.length < sizeLine ∧ P (i + 1) (upd G6 B (.dK (putK ks k z))) else P (i + 1) G4) (done : ∀ G', P n G' → Qd G') :
    ∃ W : Nat → Nat → Hp → Prop, (∃ m, W 0 m (upd G1 B (.dK []))) ∧ ∀ i m H, W i m H →
      (J.stop i H ∧ Qd H) ∨ (J.go i H ∧ ∃ Nx : Hp → Prop, (∀ H', Nx H' → ∃ m', m' < m ∧ W (i + 1) m' H') ∧ ∀ x H', J.yld i H x H' → g x (wipe σ vs) H' fun σ2 H2 => wipe σ2 vs = wipe σ vs ∧ tt σ2 H2 fun b H3 =>
        if b = true then tk σ2 H3 fun y H4 => tv σ2 H4 fun z H5 => ∃ kvs k, y = kV k ∧ H5 B = some (.dK kvs) ∧ kvs.length < sizeLine ∧ Nx (upd H5 B (.dK (putK kvs k z))) else Nx H3) := by
  refine ⟨fun i m G' => (m = n - i ∧ i ≤ n) ∧ P i G', ⟨n, ⟨by simp, Nat.zero_le _⟩, start⟩, fun i m G' ⟨⟨em, hi⟩, p⟩ => ?_⟩
  subst em
  have st := stays i G' hi p
  rcases Nat.lt_or_ge i n with c | c
  · exact .inr ⟨wk.goes i G' c st, P (i + 1), fun G2 p2 => ⟨n - (i + 1), by omega, ⟨rfl, c⟩, p2⟩, fun x G2 y => turn i x G' G2 c p (wk.yields i G' x G2 c st y)⟩
  · have : i = n := Nat.le_antisymm hi c
    subst this
    exact .inl ⟨wk.stops G' st, done G' p⟩
end
section
variable {T : Tab} {X : Cx} {W : Wd} {Φ : Wg.Ctx} {N : List Str} {ka va : Ex} {t : Tg} {it : Wg.It} {c : Exs} {own : List Nat}
theorem putD_len (l : List (D × D)) (k v : D) : (Wg.putD l k v).length ≤ l.length + 1 := by
  unfold Wg.putD
  split
  · rw [List.length_map]; omega
  · simp
theorem dc_imp (hk : ∀ i ∈ own, W.keep i = none) (htg : tgIn own t = true) (hz : zipB it t = true) : ∀ σ H Q, tXk W Φ it (.dc own ka va t it c) σ H Q → tDc (tI W Φ it) (tT W Φ t) (tCs W Φ c) (tX W Φ ka) (tX W Φ va) own σ H Q := fun σ H Q ⟨Z, S, ρ, Qs, r, lk, hw, k⟩ => by
  unfold Wg.wX at hw
  refine ⟨Z, S, ρ, _, r, lk, hw, fun J H1 S1 ρ1 items e1 r1 wk sm q D hD => ?_⟩
  obtain ⟨S2, e2, r2, no⟩ := R.freezeI own r1
  have oD := r2.own_new hD
  have nD := r2.noOwn_new hD
  have r3 := r2.upd oD nD (.dK [])
  have r5 := (r3.guard oD nD (by rw [upd_same]; simp)).wipe own hk
  obtain ⟨G, Y, w, hG, hY⟩ := wk
  have stab : ∀ {S4 H4}, Ext Z S2 (L2.upd H1 D (.dK [])) S4 H4 → ∀ a, S1 a → S4 a ∧ H4 a = H1 a := fun {S4 H4} ex a ha => by
    have h2 := (e2.s a ha).1
    obtain ⟨h3, h4⟩ := ex.s a h2
    exact ⟨h3, h4.trans (upd_ne (fun e => oD.1 (e ▸ h2)))⟩
  refine dc_it w (P := fun i H => ∃ S4 acc ds ρ4, Ext Z S2 (L2.upd H1 D (.dK [])) S4 H ∧ R W (AS.and Z D) S4 ρ4 (L2.wipe σ own) H ∧ H D = some (.dK acc) ∧ RepKs W S4 H acc ds ∧ ds.length ≤ i ∧
    Wg.dcW (fun x ρ' K => Wg.wT Φ t (.sh x) ρ' fun ρ2 => Wg.wCs Φ c ρ2 fun b ρ3 => bif b then Wg.wX Φ ka ρ3 fun s ρ4 => Wg.wX Φ va ρ4 fun s' ρ5 => K (some (s.val, s'.val)) (Wg.wipeE ρ5 own) else K none (Wg.wipeE ρ3 own)) (items.drop i) ds ρ4
        fun ds ρ2 => Qs (.od ds) (Wg.backE (Wg.freezeI ρ1 own) ρ2 own)) ⟨S2, [], [], _, .refl, r5, upd_same, .nil, Nat.le_refl _, q⟩
    (fun i H4 _ ⟨S4, acc, ds, ρ4, ex, _⟩ => hG S4 H4 (stab ex)) (fun i x H4 H5 hi ⟨S4, acc, ds, ρ4, ex, rr, hDD, ra, hl, hq⟩ y => ?_) (fun H4 ⟨S4, acc, ds, ρ4, ex, rr, hDD, ra, hl, hq⟩ => ?_)
  · have hd : items.drop i = items[i] :: items.drop (i + 1) := List.drop_eq_getElem_cons hi
    rw [hd] at hq
    unfold Wg.dcW at hq
    have behind : ∀ σ2 H6 S6 ρ6 (rest : Option (Wg.D × Wg.D) → Wg.Env → Prop), (∀ ρ7, rest none ρ7 → Wg.dcW (fun x ρ' K => Wg.wT Φ t (.sh x) ρ' fun ρ2 => Wg.wCs Φ c ρ2 fun b ρ3 => bif b then Wg.wX Φ ka ρ3 fun s ρ4 => Wg.wX Φ va ρ4 fun s' ρ5 => K (some (s.val, s'.val)) (Wg.wipeE ρ5 own) else K none (Wg.wipeE ρ3 own)) (items.drop (i + 1)) ds ρ7 fun ds ρ2 => Qs (.od ds) (Wg.backE (Wg.freezeI ρ1 own) ρ2 own)) →
        (∀ p ρ7, rest (some p) ρ7 → Wg.keysOk ds p.1 = true ∧ Wg.dcW (fun x ρ' K => Wg.wT Φ t (.sh x) ρ' fun ρ2 => Wg.wCs Φ c ρ2 fun b ρ3 => bif b then Wg.wX Φ ka ρ3 fun s ρ4 => Wg.wX Φ va ρ4 fun s' ρ5 => K (some (s.val, s'.val)) (Wg.wipeE ρ5 own) else K none (Wg.wipeE ρ3 own)) (items.drop (i + 1)) (Wg.putD ds p.1 p.2) ρ7 fun ds ρ2 => Qs (.od ds) (Wg.backE (Wg.freezeI ρ1 own) ρ2 own)) →
        Ext (AS.and Z D) S4 H4 S6 H6 → R W (AS.and Z D) S6 ρ6 σ2 H6 → (∀ vs, tgIn vs t = true → L2.wipe σ2 vs = L2.wipe (L2.wipe σ own) vs) → (Wg.wCs Φ c ρ6 fun b ρ3 => bif b then Wg.wX Φ ka ρ3 fun s ρ4 => Wg.wX Φ va ρ4 fun s' ρ5 => rest (some (s.val, s'.val)) (Wg.wipeE ρ5 own) else rest none (Wg.wipeE ρ3 own)) →
        L2.wipe σ2 own = L2.wipe σ own ∧ tCs W Φ c σ2 H6 fun b H7 => if b = true then tX W Φ ka σ2 H7 fun y H8 => tX W Φ va σ2 H8 fun z H9 => ∃ acc kk, y = kV kk ∧ H9 D = some (.dK acc) ∧ acc.length < sizeLine ∧ (∃ S4 acc_1 ds ρ4, Ext Z S2 (L2.upd H1 D (.dK [])) S4 (L2.upd H9 D (.dK (putK acc kk z))) ∧ R W (AS.and Z D) S4 ρ4 (L2.wipe σ own) (L2.upd H9 D (.dK (putK acc kk z))) ∧ (L2.upd H9 D (.dK (putK acc kk z))) D = some (.dK acc_1) ∧ RepKs W S4 (L2.upd H9 D (.dK (putK acc kk z))) acc_1 ds ∧ ds.length ≤ i + 1 ∧
          Wg.dcW (fun x ρ' K => Wg.wT Φ t (.sh x) ρ' fun ρ2 => Wg.wCs Φ c ρ2 fun b ρ3 => bif b then Wg.wX Φ ka ρ3 fun s ρ4 => Wg.wX Φ va ρ4 fun s' ρ5 => K (some (s.val, s'.val)) (Wg.wipeE ρ5 own) else K none (Wg.wipeE ρ3 own)) (items.drop (i + 1)) ds ρ4 fun ds ρ2 => Qs (.od ds) (Wg.backE (Wg.freezeI ρ1 own) ρ2 own)) else
          (∃ S4 acc ds ρ4, Ext Z S2 (L2.upd H1 D (.dK [])) S4 H7 ∧ R W (AS.and Z D) S4 ρ4 (L2.wipe σ own) H7 ∧ H7 D = some (.dK acc) ∧ RepKs W S4 H7 acc ds ∧ ds.length ≤ i + 1 ∧
          Wg.dcW (fun x ρ' K => Wg.wT Φ t (.sh x) ρ' fun ρ2 => Wg.wCs Φ c ρ2 fun b ρ3 => bif b then Wg.wX Φ ka ρ3 fun s ρ4 => Wg.wX Φ va ρ4 fun s' ρ5 => K (some (s.val, s'.val)) (Wg.wipeE ρ5 own) else K none (Wg.wipeE ρ3 own)) (items.drop (i + 1)) ds ρ4 fun ds ρ2 => Qs (.od ds) (Wg.backE (Wg.freezeI ρ1 own) ρ2 own)) := by
      intro σ2 H6 S6 ρ6 rest rN rS e6 r6 wp q6
      have hwipe : L2.wipe σ2 own = L2.wipe σ own := (wp own htg).trans wipe_wipe
      refine ⟨hwipe, AS.and Z D, S6, ρ6, _, r6, q6, fun b H7 S7 ρ7 e7 r7 q7 => ?_⟩
      have e67 := e6.trans e7
      cases b with
      | false => exact ⟨S7, acc, ds, _, ex.trans e67.unguard.1, hwipe ▸ r7.wipe own hk, e67.unguard.2.trans hDD, RepKs.mono e67.s ra, Nat.le_succ_of_le hl, rN _ q7⟩
      | true =>
        refine ⟨AS.and Z D, S7, ρ7, _, r7, q7, fun y H8 S8 ρ8 s e8 r8 ry q8 => ?_⟩
        obtain ⟨S9, e9, r9, ry9⟩ := fin_val r8 ry
        refine ⟨AS.and Z D, S9, ρ8, _, r9, q8, fun z H10 S10 ρ10 s' e10 r10 rz q10 => ?_⟩
        obtain ⟨S11, e11, r11, rz11⟩ := fin_val r10 rz
        obtain ⟨hko, q11⟩ := rS _ _ q10
        obtain ⟨key, ekey⟩ := keysOk_key hko
        have ekey : s.val = keyD key := ekey
        have ey : y = kV key := (ekey ▸ ry9).key
        have eAll := ((e67.trans e8).trans e9).trans (e10.trans e11)
        have hD8 := eAll.unguard.2.trans hDD
        have rU := r11.updZ (p := D) (o := .dK (putK acc key z)) (.inr rfl)
        have eU : Ext Z S11 H10 S11 (L2.upd H10 D (.dK (putK acc key z))) := ⟨fun b hb => ⟨hb, upd_ne (fun e => r11.dz b hb (.inr e))⟩, fun b hb => upd_ne (fun e => oD.2.1 (e ▸ hb))⟩
        refine ⟨acc, key, ey, hD8, ?_, S11, putK acc key z, Wg.putD ds s.val s'.val, _, (ex.trans eAll.unguard.1).trans eU, hwipe ▸ rU.wipe own hk, upd_same, ?_, ?_, q11⟩
        · rw [ra.length]
          omega
        · rw [ekey]
          exact RepKs.mono eU.s (RepKs.put (RepKs.mono eAll.s ra) rz11)
        · have := putD_len ds s.val s'.val
          omega
    rcases hY S4 H4 i x H5 (stab ex) hi y with ⟨rfl, d, hd2, rx⟩ | ⟨hz2, P, v1, w1, d, e, rfl, hP, rfl, hd2, rv1, rw1⟩
    · have : items[i] = d := by rw [List.getElem?_eq_getElem hi] at hd2; exact Option.some.inj hd2
      rw [this] at hq
      exact ⟨AS.and Z D, S4, ρ4, .sh d, _, rr, .inl rx, hq, fun σ2 H6 S6 ρ6 e6 r6 wp q6 => behind σ2 H6 S6 ρ6 (Wg.dcPut ds fun acc' ρ' => Wg.dcW _ (items.drop (i + 1)) acc' ρ' _) (fun _ h => h) (fun _ _ h => h) e6 r6 wp q6⟩
    · have : items[i] = .tup [d, e] := by rw [List.getElem?_eq_getElem hi] at hd2; exact Option.some.inj hd2
      rw [this] at hq
      have oP := rr.own_new hP
      have eP := Ext.upd (H := H4) oP (.tup [v1, w1])
      have rP := rr.upd oP (rr.noOwn_new hP) (.tup [v1, w1])
      exact ⟨AS.and Z D, S4, ρ4, .sh (.tup [d, e]), _, rP, .inr ⟨zipB_tp hz hz2, P, [v1, w1], [d, e], rfl, rfl, .inl (.inl upd_same), Reps.mono eP.s _ _ (.cons rv1 (.cons rw1 .nil))⟩, hq, fun σ2 H6 S6 ρ6 e6 r6 wp q6 => behind σ2 H6 S6 ρ6 (Wg.dcPut ds fun acc' ρ' => Wg.dcW _ (items.drop (i + 1)) acc' ρ' _) (fun _ h => h) (fun _ _ h => h) (eP.trans e6) r6 wp q6⟩
  · rw [List.drop_length] at hq
    have hq : Qs (.od ds) (Wg.backE (Wg.freezeI ρ1 own) ρ4 own) := hq
    obtain ⟨rU, o4, n4⟩ := rr.unguard oD.2.1
    obtain ⟨rB, nB⟩ := R.back r3 ex rU no
    exact k (.ref D) H4 S4 _ (.od ds) ((e1.trans e2).trans ((Ext.upd oD _).trans ex)) rB ⟨D, acc, rfl, hDD, o4, nB D n4, ra⟩ hq
theorem dc_frz {i : Nat} {ρ : Wg.Env} {l : List (D × D)} {Q : Slot → Wg.Env → Prop} (ei : it = .e (.var i)) (h : ρ[i]? = some (.od l)) (q : Wg.wX Φ (.dc own ka va t it c) ρ Q) : Wg.wX Φ (.dc own ka va t it c) (ρ.set i (.sh (.dct l))) Q := by
  subst ei
  unfold Wg.wX at q ⊢
  exact wI_frz h q
theorem snd_dc {kx vx tg iter : Expr} {ifs : List Expr} {scope : Scope} {pos : Pos} (g : Good T W Φ N X) (hi : PI X tg iter (tI W Φ it)) (ok : BlkOk X.N X.env.scope scope (ownP N own))
    (hg : ∀ (st : Shared) (G : Hp) (C : Addr) (cl : List (Str × Addr)) (fp : List Addr), PG (X.blk st G scope (compEnvC scope cl C X.env) fp) tg (tT W Φ t))
    (ht : ∀ (st : Shared) (G : Hp) (C : Addr) (cl : List (Str × Addr)) (fp : List Addr), PTs (X.blk st G scope (compEnvC scope cl C X.env) fp) ifs (tCs W Φ c))
    (hk1 : ∀ (st : Shared) (G : Hp) (C : Addr) (cl : List (Str × Addr)) (fp : List Addr), PE (X.blk st G scope (compEnvC scope cl C X.env) fp) kx (tX W Φ ka))
    (hv1 : ∀ (st : Shared) (G : Hp) (C : Addr) (cl : List (Str × Addr)) (fp : List Addr), PE (X.blk st G scope (compEnvC scope cl C X.env) fp) vx (tX W Φ va)) (hp : plB iter = true) (hk : ∀ i ∈ own, W.keep i = none) (htg : tgIn own t = true) (hz : zipB it t = true) :
    PE X (.DictComp kx vx [⟨tg, iter, ifs, 0⟩] scope pos) (tX W Φ (.dc own ka va t it c)) := by
  refine lockE (it := it) ?_ fun i ρ l Q ei hs hw => dc_frz ei hs hw
  refine PE.imp (pe_dc g.calm (g.hN ▸ g.nd) hi ok hg ht hk1 hv1 (folded_pl hp)) ?_
  rw [ownP_snd]
  exact dc_imp hk htg hz
/-- name = {..}, a comprehension -/
theorem ps_setDc {i : Nat} {y : Str} {py : Pos} {kx vx tg iter : Expr} {ifs : List Expr} {scope : Scope} {ow : List (Str × Nat)} {pos spos : Pos} {wi : TI} {g : TG} {tt : TT} {tk tv : TE} (calm : X.calm = true) (hN : X.N.Nodup) (hy : X.N[i]? = some y) (loc : X.env.scope.names.lookup y = some .local)
    (sw : swapsWith (.DictComp kx vx [⟨tg, iter, ifs, 0⟩] scope pos) (some (.Name y py)) spos.line X.env = pure true) (hi : PI X tg iter wi) (ok : BlkOk X.N X.env.scope scope ow)
    (hg : ∀ (st : Shared) (G : Hp) (C : Addr) (cl : List (Str × Addr)) (fp : List Addr), PG (X.blk st G scope (compEnvC scope cl C X.env) fp) tg g)
    (ht : ∀ (st : Shared) (G : Hp) (C : Addr) (cl : List (Str × Addr)) (fp : List Addr), PTs (X.blk st G scope (compEnvC scope cl C X.env) fp) ifs tt)
    (hk1 : ∀ (st : Shared) (G : Hp) (C : Addr) (cl : List (Str × Addr)) (fp : List Addr), PE (X.blk st G scope (compEnvC scope cl C X.env) fp) kx tk)
    (hv1 : ∀ (st : Shared) (G : Hp) (C : Addr) (cl : List (Str × Addr)) (fp : List Addr), PE (X.blk st G scope (compEnvC scope cl C X.env) fp) vx tv) (hs : ∀ x, foldedSetIterable iter X.env x = pure x) :
    PS X (.Assign [.Name y py] (.DictComp kx vx [⟨tg, iter, ifs, 0⟩] scope pos) spos) (tAsg (tDc wi g tt tk tv (ow.map (·.2))) (gName i)) := by
  refine ⟨fun pins st σ G D J q => ?_⟩
  have q : tDc wi g tt tk tv (ow.map (·.2)) σ G (fun x G1 => gName i x σ G1 D.nx) := q
  rw [exec_Assign_Name_used _ _ _ _ sw]
  refine wpAny_bind (wpAny_standAt (wpAny_bind ?_))
  show wpAny _ X.A (do let _ ← comprehension (.DictComp kx vx [⟨tg, iter, ifs, 0⟩] scope pos) scope X.env (firstIterPos [⟨tg, iter, ifs, 0⟩] pos) newDict false (eval iter X.env) (some (assign (.Name y py) X.env))) _ _ st
  have core := dc_core (Qf := fun _ s2 => SP X pins D .next s2) calm hN J hi ok hg ht hk1 hv1 hs q (pos := pos) (pos' := firstIterPos [⟨tg, iter, ifs, 0⟩] pos) (use := some (assign (.Name y py) X.env)) fun B C s2 m G2 J2 q2 hn f => by
    show wpAny _ _ (assign (.Name y py) X.env (.ref B)) _ _ _
    refine wpAny_assign_Name (store_ok2 (v := V.ref B) J2 hN hy (.inl loc) rfl (fun s3 J3 ⟨a, sb, ha⟩ => ?_) (.inr loc))
    obtain ⟨f0, f1, f2, f3, f4, f5⟩ := f
    have apart : C ≠ a := by
      rcases ha with z | z
      · intro e; exact f1 (e.trans z)
      · intro e; exact f4 y a z e.symm
    exact ⟨m, hn.sameBut sb apart, fun h3 sb3 => ⟨_, G2, J3.turned (t' := s3.toks) (fun b o hb e => (sb3.2 b hb).trans e) f0 f1 f3 f4 f5, q2⟩⟩
  exact wpAny_bind (thn core fun _ s2 hq => wpAny_pure (wpAny_pure hq))
theorem snd_setDc {kx vx tg iter : Expr} {ifs : List Expr} {scope : Scope} {pos spos py : Pos} {i : Nat} {y : Str} (g : Good T W Φ N X) (hy : X.N[i]? = some y) (loc : X.env.scope.names.lookup y = some .local)
    (sw : swapsWith (.DictComp kx vx [⟨tg, iter, ifs, 0⟩] scope pos) (some (.Name y py)) spos.line X.env = pure true) (hi : PI X tg iter (tI W Φ it)) (ok : BlkOk X.N X.env.scope scope (ownP N own))
    (hg : ∀ (st : Shared) (G : Hp) (C : Addr) (cl : List (Str × Addr)) (fp : List Addr), PG (X.blk st G scope (compEnvC scope cl C X.env) fp) tg (tT W Φ t))
    (ht : ∀ (st : Shared) (G : Hp) (C : Addr) (cl : List (Str × Addr)) (fp : List Addr), PTs (X.blk st G scope (compEnvC scope cl C X.env) fp) ifs (tCs W Φ c))
    (hk1 : ∀ (st : Shared) (G : Hp) (C : Addr) (cl : List (Str × Addr)) (fp : List Addr), PE (X.blk st G scope (compEnvC scope cl C X.env) fp) kx (tX W Φ ka))
    (hv1 : ∀ (st : Shared) (G : Hp) (C : Addr) (cl : List (Str × Addr)) (fp : List Addr), PE (X.blk st G scope (compEnvC scope cl C X.env) fp) vx (tX W Φ va)) (hp : plB iter = true) (hk : ∀ i ∈ own, W.keep i = none) (htg : tgIn own t = true) (hz : zipB it t = true) :
    PS X (.Assign [.Name y py] (.DictComp kx vx [⟨tg, iter, ifs, 0⟩] scope pos) spos) (tAsg (tXk W Φ it (.dc own ka va t it c)) (gName i)) := by
  refine PS.imp (ps_setDc g.calm (g.hN ▸ g.nd) hy loc sw hi ok hg ht hk1 hv1 (folded_pl hp)) fun D σ H q => ?_
  rw [ownP_snd]
  exact dc_imp hk htg hz σ H _ q
/-! ### dicts written out -/
theorem Res.od {Z S : AS} {ρ : Wg.Env} {σ : L2.St} {H : Hp} {Q : VK} {Qs : Slot → Prop} {p : Addr} {ks : List (Key × V)} {l : List (D × D)} (k : Res W Z S ρ σ H Q Qs) (r : R W Z S ρ σ H) (hp : H p = none) (h : RepKs W S H ks l) (q : Qs (.od l)) : Q (.ref p) (upd H p (.dK ks)) := by
  have o := r.own_new hp
  have n := r.noOwn_new hp
  exact k (.ref p) _ S (.od l) (Ext.upd o _) (r.upd o n _) ⟨p, ks, rfl, upd_same, o, n, RepKs.mono (fun a ha => ⟨ha, upd_ne (fun e : a = p => o.1 (e ▸ ha))⟩) h⟩ q
theorem snd_dct0 {pos : Pos} : PE X (.Dict [] [] pos) (tX W Φ (.dct .n)) := by
  refine PE.imp pe_dnewK fun σ H Q ⟨Z, S, ρ, Qs, r, hw, k⟩ p hp => ?_
  unfold Wg.wX at hw
  have hw : (([] : List (D × D)).all fun p => D.leaf p.1) = true ∧ Qs (.od (Wg.putAll [] [])) ρ := hw
  exact Res.od (Q := Q) (Qs := fun s => Qs s ρ) (fun v H' S' s e2 r2 rv q => k v H' S' ρ s e2 r2 rv q) r hp .nil hw.2
def trsOf (W : Wd) (Φ : Wg.Ctx) : Kvs → List (TE × TE)
  | .n => []
  | .c k v kvs => (tX W Φ k, tX W Φ v) :: trsOf W Φ kvs
inductive RepPs (W : Wd) (S : AS) (H : Hp) : List (V × V) → List (D × D) → Prop
  | nil : RepPs W S H [] []
  | cons {x y : V} {a b : D} {ps : List (V × V)} {ds : List (D × D)} : Rep W S H x a → Rep W S H y b → RepPs W S H ps ds → RepPs W S H ((x, y) :: ps) ((a, b) :: ds)
theorem RepPs.length {W : Wd} {S : AS} {H : Hp} : ∀ {ps : List (V × V)} {ds : List (D × D)}, RepPs W S H ps ds → ps.length = ds.length
  | _, _, .nil => rfl
  | _, _, .cons _ _ t => congrArg (· + 1) t.length
theorem pairs_imp : ∀ (kvs : Kvs) {Z S : AS} {ρ : Wg.Env} {σ : L2.St} {H : Hp} {K : List (V × V) → Hp → Prop} {Qk : List (D × D) → Wg.Env → Prop}, R W Z S ρ σ H → Wg.wKs Φ kvs ρ Qk →
    (∀ ps H' S' ρ' ds, Ext Z S H S' H' → R W Z S' ρ' σ H' → RepPs W S' H' ps ds → ps.length = (trsOf W Φ kvs).length → Qk ds ρ' → K ps H') → tPairs (trsOf W Φ kvs) σ H K
  | .n, Z, S, ρ, σ, H, K, Qk, r, hw, k => k [] H S ρ [] .refl r .nil rfl hw
  | .c ka va kvs, Z, S, ρ, σ, H, K, Qk, r, hw, k => by
    refine ⟨Z, S, ρ, _, r, hw, fun x H1 S1 ρ1 s e1 r1 rx q1 => ?_⟩
    obtain ⟨S2, e2, r2, rx⟩ := fin_val r1 rx
    refine ⟨Z, S2, ρ1, _, r2, q1, fun y H3 S3 ρ3 s' e3 r3 ry q3 => ?_⟩
    obtain ⟨S4, e4, r4, ry⟩ := fin_val r3 ry
    refine pairs_imp kvs r4 q3 fun ps H5 S5 ρ5 ds e5 r5 rp len q5 => k _ H5 S5 ρ5 _ (((e1.trans e2).trans (e3.trans e4)).trans e5) r5 (.cons (Rep.mono ((e3.trans e4).trans e5).s _ _ rx) (Rep.mono e5.s _ _ ry) rp) (congrArg (· + 1) len) q5
theorem leaf_pairs {S : AS} {H : Hp} : ∀ {ps : List (V × V)} {ds : List (D × D)}, RepPs W S H ps ds → (ds.all fun p => D.leaf p.1) = true → ∃ ks : List (Key × V), ps = ks.map (fun kv => (kV kv.1, kv.2)) ∧ RepKs W S H ks ds
  | _, _, .nil, _ => ⟨[], rfl, .nil⟩
  | _, _, .cons hx hy t, h => by
    rw [List.all_cons, Bool.and_eq_true] at h
    obtain ⟨key, ek⟩ := leaf_key h.1
    obtain ⟨ks, e, r⟩ := leaf_pairs t h.2
    have ek : _ = keyD key := ek
    subst ek
    refine ⟨(key, _) :: ks, ?_, .cons hy r⟩
    rw [hx.key, e]
    rfl
theorem snd_dctN {kvs : Kvs} {ks : List (Option Expr)} {vs : List Expr} {pos : Pos} (h : PPs X pos ks vs (trsOf W Φ kvs)) (hall : ks.all (·.isSome) = true) (hl : ks.length = vs.length) (h0 : ks ≠ []) (h15 : ks.length ≤ 15) (hn : (trsOf W Φ kvs).length = ks.length) :
    PE X (.Dict ks vs pos) (tX W Φ (.dct kvs)) := by
  refine PE.imp (pe_disp h hall hl h0 h15) fun σ H Q ⟨Z, S, ρ, Qs, r, hw, k⟩ p hp => ?_
  unfold Wg.wX at hw
  have oD := r.own_new hp
  have nD := r.noOwn_new hp
  have r3 := (r.upd oD nD (.dK [])).guard oD nD (by rw [upd_same]; simp)
  refine pairs_imp kvs r3 hw fun ps H' S' ρ' ds e1 r1 rp len q => ?_
  have hD : H' p = some (.dK []) := e1.unguard.2.trans upd_same
  obtain ⟨key, e, rk⟩ := leaf_pairs rp q.1
  rw [hn] at len
  refine ⟨hD, key, e, by rw [← len, e, List.length_map] at h15; exact h15, ?_⟩
  have rU := r1.updZ (p := p) (o := .dK (mergeK [] key)) (.inr rfl)
  obtain ⟨rV, o4, n4⟩ := rU.unguard oD.2.1
  have eU : ∀ a, S' a → S' a ∧ (upd H' p (.dK (mergeK [] key))) a = H' a := fun a ha => ⟨ha, upd_ne (fun z => r1.dz a ha (.inr z))⟩
  have ext : Ext Z S H S' (upd H' p (.dK (mergeK [] key))) := by
    have e2 := (Ext.upd oD (.dK [])).trans e1.unguard.1
    exact ⟨fun a ha => ⟨(e2.s a ha).1, (eU a (e2.s a ha).1).2.trans (e2.s a ha).2⟩, fun a ha => (upd_ne (fun z : a = p => oD.2.1 (z ▸ ha))).trans (e2.z a ha)⟩
  exact k (.ref p) _ S' ρ' (.od (Wg.putAll [] ds)) ext rV ⟨p, _, rfl, upd_same, o4, n4, RepKs.merge (RepKs.mono eU rk) .nil⟩ q.2
theorem R.ownD {Z S : AS} {ρ : Wg.Env} {σ : L2.St} {H : Hp} {k : Nat} (r : R W Z S ρ σ H) (h : Wg.ownD ρ k) : ∃ a ks, σ[k]? = some (some (.ref a)) ∧ H a = some (.dK ks) := by
  unfold Wg.ownD at h
  split at h
  · rename_i l e
    obtain ⟨a, xs, h1, h2, _⟩ := r.od k l e
    exact ⟨a, xs, h1, h2⟩
  · exact h.elim
/-- a.update(b), two dicts -/
theorem pe_dupd {o e : Expr} {apos cpos : Pos} {td ty : TE} (ho : PE X o td) (he : PE X e ty) (m : M1 X o "update" apos e cpos) :
    PE X (.Call (.Attribute o "update" apos) [e] [] cpos) (fun σ H Q => td σ H fun x H1 => ∃ a, x = .ref a ∧ IsD H1 a ∧ ty σ H1 fun y H2 => ∃ b ks more, y = .ref b ∧ a ≠ b ∧ H2 a = some (.dK ks) ∧ Rd H2 b (.dK more) ∧ ks.length + more.length ≤ sizeLine ∧ Q .non (upd H2 a (.dK (mergeK ks more)))) := by
  refine ⟨fun pins st σ G Q J h => ?_⟩
  refine wpAny_Call_method m.base m.few m.line PySem.F.plainAttrs_dict PySem.F.slot_dict_update PySem.F.type_dict_update (thn (ho.run pins st σ G _ J h) fun u s1 ⟨x, G1, J1, rx, a, ex, d, q1⟩ => ?_)
  subst ex
  cases (show u = Value.ref a from rx)
  obtain ⟨t1, t2, _⟩ := isD_at J1 d
  refine ⟨t1, t2, ?_⟩
  rw [m.trees]
  refine Calls.callWith_builtin rfl (Calls.evalArgs_plain (Calls.spliced_cons (thn (he.run pins s1 σ G1 _ J1 q1) fun iv s2 ⟨y, G2, J2, ry, b, ks, more, ey, ne, ha, hb, fit, q2⟩ => Calls.spliced_nil ?_)))
  subst ey
  cases (show iv = Value.ref b from ry)
  obtain ⟨z1, low1, ws1, rel1, dd1⟩ := dk_of J2.hok ha
  obtain ⟨z2, low2, ws2, rel2, dd2⟩ := dk_rd J2.hok hb
  refine call_meetsIn PySem.F.slot_dict_update dd1.typeIs PySem.F.entry_dict_update (PySem.F.args_dict_update_2 _ _) (meets_dict_update (mixKind X.prog X.w) a b ne low2) ⟨ws1, ws2, dd1, dd2, by rw [← rel1.length, ← rel2.length]; exact fit, fun h' new _ same => ?_⟩
  have len := length_mergeK more ks
  have there : ∃ q, h'.get? a = some q := let ⟨q, _, _, hq, _⟩ := new; ⟨q, hq⟩
  exact ⟨.non, _, d_write J2 (by rw [ha]; exact trivial) same there (dk_new (by omega) low1 (KV.merge rel2 rel1) new), rfl, q2⟩
theorem m1_of {o e : Expr} {nm : Str} {apos cpos : Pos} (hc : notCall o = true) (hp : plB e = true) (hline : (apos.endLine == cpos.line) = true) : M1 X o nm apos e cpos := by
  have pl : ([e] : List Expr).all plB = true := by simp [hp]
  refine ⟨base_pl hc, few_pl pl (by decide), hline, ?_⟩
  rw [star_pl hp]
  rfl
theorem snd_update {k : Nat} {l e : Expr} {a : Ex} {ap cp : Pos} (hv : PE X l (tVar k)) (ha : PE X e (tX W Φ a)) (hp : plB e = true) (hc : notCall l = true) (hline : (ap.endLine == cp.line) = true) :
    PE X (.Call (.Attribute l "update" ap) [e] [] cp) (tX W Φ (.mth .update (.var k) (.c a .n))) := by
  refine PE.imp (pe_dupd hv ha (m1_of hc hp hline)) fun σ H Q ⟨Z, S, ρ, Qs, r, hw, kk⟩ => ?_
  have hw : Wg.ownD ρ k ∧ Wg.wX Φ a ρ fun s ρ1 => Wg.updK ρ1 k s.val Qs := hw
  obtain ⟨b, ks, h1, h2⟩ := r.ownD hw.1
  refine ⟨_, h1, b, rfl, .inl ⟨ks, .inl h2⟩, Z, S, ρ, _, r, hw.2, fun v H1 S1 ρ1 s e1 r1 rv q => ?_⟩
  obtain ⟨S2, e2, r2, rv2⟩ := fin_val r1 rv
  revert q rv2
  generalize s.val = d
  intro q rv2
  unfold Wg.updK at q
  split at q
  · rename_i l m el
    obtain ⟨b', ks', h3, h4, h5, h6⟩ := r2.putD el
    rw [h1] at h3; cases h3
    obtain ⟨c, more, rfl, sc, rc, hr⟩ := dct_at rv2
    obtain ⟨e3, r3⟩ := h6 (mergeK ks' more) (Wg.putAll l m) (RepKs.merge hr h5)
    have ne : b ≠ c := fun z => by
      obtain ⟨a9, x9, g1, g2, g3, _⟩ := r2.od k l el
      rw [h1] at g1; cases g1
      exact g3.1 (z ▸ sc)
    refine ⟨c, ks', more, rfl, ne, h4, rc, ?_, kk .non _ S2 _ (.sh .non) (e1.trans (e2.trans e3)) r3 .non q.2.2⟩
    rw [h5.length, hr.length]
    have := LB_line
    have := q.1
    omega
  · exact q.elim
/-! ### isinstance -/
def isName : Blt → Option String
  | .isInt => some "int"
  | .isBool => some "bool"
  | .isStr => some "str"
  | .isTup => some "tuple"
  | .isList => some "list"
  | _ => none
theorem kit_all (K : PySem.W.Frag) (b : Blt) (t : String) (n : String) (r : Bool) (hn : isName b = some n) (hr : (t = "NoneType" ∧ r = false) ∨ (t = "bool" ∧ r = (b == .isInt || b == .isBool)) ∨ (t = "int" ∧ r = (b == .isInt)) ∨ (t = "str" ∧ r = (b == .isStr)) ∨ (t = "tuple" ∧ r = (b == .isTup)) ∨ (t = "list" ∧ r = (b == .isList)) ∨ (t = "dict" ∧ r = false)) :
    PySem.W.kitOne K (.type t) (.type n) = some r := by
  refine kit_ty ?_
  cases b <;> cases hn <;> rcases hr with ⟨rfl, rfl⟩ | ⟨rfl, rfl⟩ | ⟨rfl, rfl⟩ | ⟨rfl, rfl⟩ | ⟨rfl, rfl⟩ | ⟨rfl, rfl⟩ | ⟨rfl, rfl⟩ <;> decide +kernel
/-- the type of what is worth d -/
theorem ty_of {S : AS} {H : Hp} {v : V} {d : D} {b : Blt} {r : Bool} (hK : W.K = X.K) (h : RepT W S H v d) (e : Wg.isD b d = some r) : ∃ t : String, TyX X.K H v (.type t) ∧ ((t = "NoneType" ∧ r = false) ∨ (t = "bool" ∧ r = (b == .isInt || b == .isBool)) ∨ (t = "int" ∧ r = (b == .isInt)) ∨ (t = "str" ∧ r = (b == .isStr)) ∨ (t = "tuple" ∧ r = (b == .isTup)) ∨ (t = "list" ∧ r = (b == .isList)) ∨ (t = "dict" ∧ r = false)) := by
  unfold Wg.isD at e
  cases d with
  | non => cases e; cases (show Rep W S H v .non from h); exact ⟨_, .base .non, by simp⟩
  | bl x => cases e; cases h.bl; exact ⟨_, .base (.bl x), by simp⟩
  | int x => cases e; cases h.int; exact ⟨_, .base (.int x), by simp⟩
  | str x => cases e; cases h.str; exact ⟨_, .base (.str _), by simp⟩
  | tup l =>
    cases e
    have h : Rep W S H v (.tup l) := h
    cases h with
    | tup hs ha hd hr => exact ⟨_, .fTuple ha, by simp⟩
    | ktup hk hr =>
      obtain ⟨o, its, n, h1, h2, _⟩ := hk
      exact ⟨_, .kTuple (hK ▸ h1) h2, by simp⟩
  | lst l =>
    cases e
    obtain ⟨a, xs, rfl, ha, _⟩ := h.lst
    exact ⟨_, .base (.lst ha), by simp⟩
  | dct l =>
    cases e
    obtain ⟨a, xs, rfl, ha, _⟩ := h.dct
    rcases ha with ha | ⟨o, ha⟩
    · exact ⟨_, .base (.dK ha), by simp⟩
    · exact ⟨_, .fDict ha, by simp⟩
  | _ => cases e
theorem snd_isi {b : Blt} {n : String} {y : Str} {l : Expr} {a : Ex} {np np2 pos : Pos} (g : Good T W Φ N X) (hn : isName b = some n) (hy : bootBuiltins y = some (.type n)) (hm1 : X.mg "isinstance" = none) (hm : X.mg y = none) (hg1 : Gl X "isinstance") (hg : Gl X y) (hd : (y == ("__debug__" : Str)) = false) (hnm : y ≠ "__name__") (ha : PE X l (tO W Φ a)) (hp : plB l = true) :
    PE X (.Call (.Name "isinstance" np) [l, .Name y np2] [] pos) (tX W Φ (.blt b (.c a .n))) := by
  have pl : ([l, .Name y np2] : List Expr).all plB = true := by rw [List.all_cons, hp]; rfl
  refine PE.imp (pe_callB call_isi hg1 hm1 (by kernel_rfl) (pa_cons ha (pa_cons (pe_bltn hg hm hy (v := .ty n) rfl hnm hd) pa_nil (star_pl rfl)) (star_pl hp)) (by decide) (by decide) (star_pl hp) (plAll_star (xs := [.Name y np2]) rfl pos).2) fun σ H Q ⟨Z, S, ρ, Qs, r, hw, k⟩ => ?_
  have hw : Wg.opd a (Wg.wX Φ a ρ) ρ fun x ρ1 => x.get ρ1 fun d => Wg.bltV b [d] fun s => Qs s ρ1 := by
    unfold Wg.wX at hw
    exact hw
  refine ⟨Z, S, ρ, _, r, hw, fun x H1 S1 ρ1 o e1 r1 rx q1 => ?_⟩
  obtain ⟨d, q2, rd⟩ := RepO.get r1 rx q1
  have q3 : ∃ t, Wg.isD b d = some t ∧ Qs (.sh (.bl t)) ρ1 := by
    cases b <;> first | (cases hn; done) | skip
    all_goals
      unfold Wg.bltV Wg.isDV at q2
      dsimp only at q2
      split at q2
      · exact ⟨_, by assumption, q2⟩
      · exact q2.elim
  obtain ⟨t, et, q4⟩ := q3
  obtain ⟨ty, h1, h2⟩ := ty_of g.hK rd et
  exact ⟨x, .ty n, .type ty, .type n, t, rfl, .ty n, h1, kit_all X.K b ty n t hn h2, k (.bl t) H1 S1 ρ1 (.sh (.bl t)) e1 r1 (Rep.bl t) q4⟩
end
end WgS
set_option Elab.async false
set_option linter.all false
set_option maxRecDepth 100000
set_option maxHeartbeats 1000000
/-! WgS: t[::-1] of a tuple; calls of functions that are values. -/
namespace WgS
open PySem PySem.Spec PyProof.Rows L2
open Wg (D Slot Opd Ex Exs Tg Tgs Kvs Sts BOp COp Blt Mth LB)
theorem fm_map {α β : Type} {f : α → Option β} {g : α → β} : ∀ {l : List α}, (∀ m ∈ l, f m = some (g m)) → l.filterMap f = l.map g
  | [], _ => rfl
  | x :: l, h => by
    rw [List.filterMap_cons, h x List.mem_cons_self, List.map_cons, fm_map fun m hm => h m (List.mem_cons_of_mem _ hm)]
theorem back_pick (xs : Array Value) : ((List.range xs.size).filterMap fun (m : Nat) => xs[(((xs.size : Int) - 1) + (m : Int) * (-1)).toNat]?) = xs.toList.reverse := by
  refine List.ext_getElem? fun i => ?_
  have e : ((List.range xs.size).filterMap fun (m : Nat) => xs[(((xs.size : Int) - 1) + (m : Int) * (-1)).toNat]?) = (List.range xs.size).map fun m => xs.toList.reverse.getD m .none := by
    refine fm_map fun m hm => ?_
    have hm := List.mem_range.mp hm
    have e1 : (((xs.size : Int) - 1) + (m : Int) * (-1)).toNat = xs.size - 1 - m := by omega
    rw [e1, Array.getElem?_eq_getElem (by omega)]
    simp [List.getD, List.getElem?_reverse, hm]
  rw [e, List.getElem?_map]
  by_cases c : i < xs.size
  · rw [List.getElem?_range c]
    simp [List.getD, c]
  · rw [List.getElem?_eq_none (by simpa using c), List.getElem?_eq_none (by simpa using c)]
    rfl
section
variable {prog : Program} {w : World} {A : Around} {E : Value → Shared → Prop} {s : Shared}
theorem back_applied {sl : Addr} {t : Tok} {n : Nat} {Q : Int × Int × Nat → Shared → Prop} (hs : s.heap.IsSliceOf sl .none .none (.int (-1) t)) (h : Q ((n : Int) - 1, -1, n) s) : wpAny (model prog w) A (Builtin.Slice.sliceApplied (.ref sl) (pure (n : Int))) Q E s := by
  obtain ⟨os, g1, g2, g3⟩ := id hs
  unfold Builtin.Slice.sliceApplied Builtin.Slice.sliceFields
  refine wpAny_bind (wpAny_bind (wpAny_field g1 g3 (x := .none) rfl (wpAny_bind (wpAny_field g1 g3 (x := .none) rfl (wpAny_bind (wpAny_field g1 g3 (x := .int (-1) t) rfl (wpAny_pure ?_)))))))
  refine wpAny_bind (HT.slicePart_ (.int (-1) t) ?_)
  show wpAny _ _ (if ((-1 : Int) == 0) = true then _ else _) _ _ s
  rw [if_neg (by decide)]
  refine wpAny_bind (HT.slicePart_ .none (wpAny_bind (HT.slicePart_ .none (wpAny_bind (wpAny_pure ?_)))))
  have e1 : Builtin.Slice.sliceAdjust none none (-1) (n : Int) = ((n : Int) - 1, -1) := rfl
  show wpAny _ _ (match Builtin.Slice.sliceAdjust none none (-1) (n : Int) with | (lo, hi) => pure (lo, (-1 : Int), Builtin.Slice.slicePlaces lo hi (-1))) _ _ s
  rw [e1]
  have e2 : Builtin.Slice.slicePlaces ((n : Int) - 1) (-1) (-1) = n := by
    unfold Builtin.Slice.slicePlaces
    rw [if_neg (by decide)]
    split
    · rename_i z
      rw [show (- -1 : Int) = 1 from rfl, Int.ediv_one]
      omega
    · omega
  show wpAny _ _ (pure ((n : Int) - 1, (-1 : Int), Builtin.Slice.slicePlaces ((n : Int) - 1) (-1) (-1))) _ _ s
  rw [e2]
  exact wpAny_pure h
theorem back_item {t sl : Addr} {tk : Tok} {items : Array Value} {Q : Value → Shared → Prop} (ht : IsTup s.heap t items) (hs : s.heap.IsSliceOf sl .none .none (.int (-1) tk))
    (h : Q (.ref s.heap.objs.size) { s with heap := s.heap.push { cls := .type "tuple", data := .seq items.toList.reverse.toArray } }) (hsz : items.size ≤ sizeLine) : wpAny (model prog w) A (getItem (.ref t) (.ref sl)) Q E s := by
  have hfit : sizeOk (.seq items.toList.reverse.toArray) := by
    show items.toList.reverse.toArray.size ≤ sizeLine
    rw [List.size_toArray, List.length_reverse, Array.length_toList]
    exact hsz
  obtain ⟨os, g1, g2, g3⟩ := id hs
  have hT : s.TypeIs (.ref sl) "slice" := ⟨os, g1, g2⟩
  unfold getItem
  refine wpAny_holding ?_
  refine wpAny_bind (wpAny_sequenceKey ht.typeIs (by decide) ?_)
  refine wpAny_bind (wpAny_callSpecial?_slot (name := Str.ofString "__getitem__") ht.typeIs PyProof.Rows.slot_tuple_getitem
    (wpAny_call_entry PyProof.Rows.slot_tuple_getitem ht.typeIs entry_tuple_getitem ?_ (args_tuple_getitem _ _)))
  show wpAny _ _ (Builtin.Tuple.tupleItemsOf (.ref t) >>= _) _ _ s
  refine wpAny_bind (tupleItemsOf_ ht ?_)
  refine wpAny_bind (wpAny_typeOf hT ?_)
  rw [if_pos (by decide)]
  refine wpAny_bind (back_applied hs ?_)
  show wpAny _ _ (if (((items.size : Int) - 1) == 0 && (-1 : Int) == 1 && items.size == items.size) = true then _ else _) _ _ s
  rw [if_neg (by simp), back_pick]
  first
    | exact wpAny_bind (m := Builtin.Tuple.tupleExact _) (wpAny_newObj_type (wpAny_pure ⟨_, rfl, wpAny_pure h⟩) hfit)
    | exact wpAny_bind (m := Builtin.Tuple.tupleExact _) (wpAny_newObj_type (wpAny_bind (wpAny_pure (wpAny_pure ⟨_, rfl, wpAny_pure h⟩))) hfit)
    | exact wpAny_bind (wpAny_bind (m := Builtin.Tuple.tupleExact _) (wpAny_newObj_type (wpAny_pure (wpAny_pure ⟨_, rfl, wpAny_pure h⟩)) hfit))
    | exact wpAny_bind (wpAny_bind (m := Builtin.Tuple.tupleExact _) (wpAny_newObj_type (wpAny_pure ⟨_, rfl, wpAny_pure h⟩) hfit))
end
/-! x[::-1] of a list or a tuple -/
def tRev2 (K : PySem.W.Frag) (te : TE) : TE := fun σ H Q => te σ H fun x H1 => ∃ a xs, x = .ref a ∧
  ((SqL K H1 a xs ∧ ∀ p, H1 p = none → Q (.ref p) (upd H1 p (.lst xs.reverse))) ∨ (SqT K H1 a xs ∧ ∀ p ob, ob.dict = none → H1 p = none → Q (.ref p) (upd H1 p (.frz ob (.tup xs.reverse)))))
section
variable {T : Tab} {W : Wd} {Φ : Wg.Ctx} {N : List Str} {X : Cx}
theorem pe_rev2 {e : Expr} {te : TE} {k : Nat} {p1 p2 p3 pos : Pos} (he : PE X e te) : PE X (.Subscript e (.Slice none none (some (.UnaryOp .USub (.Constant (.int 1) k p1) p2)) p3) pos) (tRev2 X.K te) := by
  refine ⟨fun pins s σ H Q I h => Subscript_ (thn (he.run pins s σ H _ I h) fun v s1 ⟨x, H1, I1, r1, q1⟩ => ?_)⟩
  obtain ⟨a, xs, rfl, q⟩ := q1
  cases r1
  have minus : PO X (some (.UnaryOp .USub (.Constant (.int 1) k p1) p2)) (tPart (tUn (rU fun i => .int (-i)) (tC (.int 1)))) := po_some (pe_un un_neg pe_int)
  refine wpAny_Slice (thn (po_none.run pins s1 σ H1 (fun o G => o = none ∧ G = H1) I1 ⟨rfl, rfl⟩) fun vl s2 ⟨l, G2, J2, pl, el, e2⟩ => ?_)
  subst el e2
  refine thn (po_none.run pins s2 σ G2 (fun o G => o = none ∧ G = G2) J2 ⟨rfl, rfl⟩) fun vu s3 ⟨u, G3, J3, pu, eu, e3⟩ => ?_
  subst eu e3
  refine thn (minus.run pins s3 σ G3 (fun o G => o = some (-1) ∧ G = G3) J3 ⟨1, rfl, -1, rfl, rfl, rfl⟩) fun vs s4 ⟨o, G4, J4, pst, eo, e4⟩ => ?_
  subst eo e4
  have J5 : Inv X pins σ G4 { s4 with heap := s4.heap.push { cls := .type "slice", data := .fields #[vl, vu, vs] } } := J4.kept (t' := s4.toks) fun b ob z => Heap.get?_push_of_some _ z
  show wpAny (model X.prog X.w) X.A (subscriptTail e (.Slice none none (some (.UnaryOp .USub (.Constant (.int 1) k p1) p2)) p3) (.ref a) (.ref s4.heap.objs.size)) (EP X pins σ Q) X.xe _
  rcases q with ⟨hx, q⟩ | ⟨hx, q⟩
  · obtain ⟨its, r, ht, hz⟩ := J5.list hx
    have hl := r.length
    refine tail_any (ops := [.ref a, .ref s4.heap.objs.size]) ht.isList.typeIs (PySem.slot_list_getitem.lookup) ?_ (by with_unfolding_all rfl)
    refine wpAny_getItem_list_slice ht.isList (Heap.IsSliceOf.new _ vl vu vs) pl pu pst (by decide) ?_ (by rw [List.size_toArray]; omega)
    rw [PySem.W.krv_pick]
    have hz2 : xs.reverse.length ≤ sizeLine := by rw [List.length_reverse]; exact hz
    refine ⟨.ref _, _, J5.laid (t' := s4.toks) (o := .lst xs.reverse) (fun b ob z => Heap.get?_push_of_some _ z) (Nat.le_refl _) ?_, rfl, q _ (J5.hok.fresh (Nat.le_refl _))⟩
    exact ⟨hz2, _, 0, r.reverse, Heap.get?_push_size _ rfl⟩
  · obtain ⟨its, r, ht, hz⟩ := J5.tuple hx
    have hl := r.length
    cases pl
    cases pu
    cases pst
    refine tail_any (ops := [.ref a, .ref s4.heap.objs.size]) ht.typeIs (PyProof.Rows.slot_tuple_getitem.lookup) ?_ (by with_unfolding_all rfl)
    refine back_item (show IsTup _ a its.toArray from ht) (Heap.IsSliceOf.new _ _ _ _) ?_ (by rw [List.size_toArray]; omega)
    exact ⟨.ref _, _, laidT (xs := xs.reverse) (t' := s4.toks) J5 r.reverse (by rw [List.length_reverse]; exact hz), rfl, q _ _ rfl (J5.hok.fresh (Nat.le_refl _))⟩
theorem snd_rev2 {e : Expr} {a : Ex} {kd : Nat} {p1 p2 p3 pos : Pos} (hK : W.K = X.K) (ha : PE X e (tO W Φ a)) : PE X (.Subscript e (.Slice none none (some (.UnaryOp .USub (.Constant (.int 1) kd p1) p2)) p3) pos) (tX W Φ (.rev a)) := by
  refine PE.imp (pe_rev2 ha) fun σ H Q ⟨Z, S, ρ, Qs, r, hw, k⟩ => ?_
  unfold Wg.wX at hw
  refine ⟨Z, S, ρ, _, r, hw, fun x H1 S1 ρ1 ox e1 r1 rx q1 => ?_⟩
  obtain ⟨x', q2, rx'⟩ := RepO.get r1 rx q1
  unfold Wg.revV at q2
  split at q2
  · rename_i l
    obtain ⟨b, xs, rfl, hb, hr⟩ := RepT.lst rx'
    exact ⟨b, xs, rfl, .inl ⟨hK ▸ SqL.of hb, fun p hp => Res.lst (Q := Q) (Qs := fun s => Qs s ρ1) (fun v H' S' s e2 r2 rv q => k v H' S' ρ1 s (e1.trans e2) r2 rv q) r1 hp hr.rev q2⟩⟩
  · rename_i l
    obtain ⟨b, xs, rfl, hb, hr⟩ := Rep.tupv rx'
    exact ⟨b, xs, rfl, .inr ⟨hK ▸ hb, fun p ob hd hp => Res.tup (Q := Q) (Qs := fun s => Qs s ρ1) (fun v H' S' s e2 r2 rv q => k v H' S' ρ1 s (e1.trans e2) r2 rv q) r1 hd hp hr.rev q2⟩⟩
  · exact q2.elim
/-! a function that is a value, called -/
theorem eval_callv {f : Expr} {args : List Expr} {pos : Pos} {env : PySem.Env} (h : notAtt f = true) : eval (.Call f args [] pos) env = (do callWith pos (← eval f env) [] (backTo pos (starEach args env)) (backToKw pos (keywordEach [] env))) := by
  cases f <;> first | rfl | cases h
theorem snd_callv {fe : Expr} {f : Ex} {e : Expr} {xs : List Expr} {es : Exs} {pos : Pos} (g : Good T W Φ N X) (hfv : T.fv = true) (hn : notAtt fe = true) (hf : PE X fe (tX W Φ f)) (h : PA X (e :: xs) (tOs W Φ es)) (hp : (e :: xs).all plB = true) :
    PE X (.Call fe (e :: xs) [] pos) (tX W Φ (.callv f es)) := by
  simp only [List.all_cons, Bool.and_eq_true] at hp
  refine ⟨fun pins s σ H Q I ⟨Z, S, ρ, Qs, r, hw, k⟩ => ?_⟩
  unfold Wg.wX at hw
  rw [eval_callv hn]
  refine wpAny_bind (thn (hf.run pins s σ H (fun v H1 => ∃ (gf : Nat) (a : Addr), v = .ref a ∧ W.fn gf = some a ∧ gf ≠ 1 ∧ tX W ⟨Φ.G, Φ.F⟩ (.call gf es) σ H1 Q) I ?_) fun u s1 ⟨v, H1, I1, r1, q1⟩ => ?_)
  · refine ⟨Z, S, ρ, _, r, hw, fun v H1 S1 ρ1 sl e1 r1 rv q => ?_⟩
    split at q
    · rename_i gf caps
      obtain ⟨rfl, hg1, q⟩ := q
      have rv : Rep W S1 H1 v (.fn gf []) := rv
      cases rv with
      | fn ea => exact ⟨gf, _, rfl, ea, hg1, Z, S1, ρ1, Qs, r1, q, fun v H' S' ρ' s e2 r2 rv q => k v H' S' ρ' s (e1.trans e2) r2 rv q⟩
    · exact q.elim
  · obtain ⟨gf, a, rfl, ea, hg1, q⟩ := q1
    cases r1
    obtain ⟨x, hx, hm0⟩ := g.fv hfv gf a ea hg1
    obtain ⟨a', fd, ps, kk, hm, hk, hb, hr, F⟩ := g.fn gf x hx
    rw [hm0] at hm
    cases hm
    have hpass : Passes CX0 X (fun _ _ _ => False) := fun _ _ _ _ _ _ _ h => h.elim
    have q' := call_imp (W := W) (Φ := Φ) (es := es) (f := gf) σ H1 Q q
    refine PySem.W.callWith_K (h₀ := X.base) I1.ok.mod.kin hk (thn (h.run pos pins s1 σ _ _ I1 q') fun us s2 ⟨vs, H2, I2, r, q⟩ => ⟨I2.kIn, ?_⟩) (star_pl hp.1) (plAll_star hp.2 pos).2
    exact run_fn F hr hb .nil hpass I2 r q
end
end WgS
set_option Elab.async false
set_option linter.all false
set_option maxRecDepth 100000
set_option maxHeartbeats 4000000
/-! WgS: what the checker accepts does what Wg says. -/
namespace WgS
open PySem PySem.Spec PyProof.Rows L2
open Wg (D Slot Opd Ex Exs Tg Tgs Kvs Sts BOp COp Blt Mth LB)
theorem visB_ok {sc : Scope} {x : Str} (h : visB sc x = true) : Vis sc x ∧ (x == ("__debug__" : Str)) = false ∧ (x == ("__classdict__" : Str)) = false := by
  unfold visB at h
  simp only [Bool.and_eq_true, Bool.not_eq_true'] at h
  obtain ⟨⟨h1, h2⟩, h3⟩ := h
  refine ⟨?_, h2, h3⟩
  split at h1
  · exact .inl (by assumption)
  · exact .inr (.inl (by assumption))
  · exact .inr (.inr (by assumption))
  · cases h1
theorem glB_ok {sc : Scope} {x : Str} (h : glB sc x = true) : sc.names.lookup x = some .globalImplicit ∧ (x == ("__debug__" : Str)) = false ∧ x ≠ ("__name__" : Str) := by
  unfold glB at h
  simp only [Bool.and_eq_true, Bool.not_eq_true'] at h
  obtain ⟨⟨h1, h2⟩, h3⟩ := h
  refine ⟨?_, h2, by simpa using h3⟩
  split at h1
  · assumption
  · cases h1
theorem locB_ok {sc : Scope} {fnb : Str → Bool} {x : Str} (h : locB sc fnb x = true) : Loc sc x ∧ (fnb x = true ∨ sc.names.lookup x = some .local) := by
  unfold locB at h
  split at h
  · rename_i q; exact ⟨.inl q, .inr q⟩
  · rename_i q; exact ⟨.inr q, .inl h⟩
  · cases h
theorem chkX_pl {T : Tab} {N : List Str} {e : Ex} {sc : Scope} {x : Expr} (h : chkX T N e sc x = true) : plB x = true := by
  cases x <;> first | rfl | (exfalso; cases e <;> unfold chkX at h <;> (repeat' split at h) <;> first | contradiction | (simp [chkLit] at h; done))
section
variable {T : Tab} {W : Wd} {Φ : Wg.Ctx} {N : List Str}
theorem snd_name {X : Cx} {i : Nat} {x : Str} {p : Pos} (g : Good T W Φ N X) (h : nameB N X.env.scope i x = true) : PE X (.Name x p) (tVar i) := by
  unfold nameB at h
  simp only [Bool.and_eq_true, decide_eq_true_eq] at h
  obtain ⟨h1, h2, h3⟩ := And.intro h.1 (visB_ok h.2)
  exact pe_var (g.hN ▸ h1) h2 h3.1 h3.2
theorem snd_cst {X : Cx} {d : D} {ex : Expr} (h : chkLit d ex = true) : PE X ex (tX W Φ (.lit d)) ∧ PT X ex (tBl W Φ (.lit d)) := by
  unfold chkLit at h
  split at h
  · rename_i k p
    have q : PE X (.Constant .none k p) (tX W Φ (.lit .non)) := snd_lit pe_non fun S H => .non
    exact ⟨q, snd_val q fun _ => rfl⟩
  · rename_i b c k p
    have e : b = c := by simpa using h
    subst e
    have q : PE X (.Constant (.bool b) k p) (tX W Φ (.lit (.bl b))) := snd_lit pe_bl fun S H => .bl b
    exact ⟨q, snd_val q fun _ => rfl⟩
  · rename_i i j k p
    have e : i = j := by simpa using h
    subst e
    have q : PE X (.Constant (.int i) k p) (tX W Φ (.lit (.int i))) := snd_lit pe_int fun S H => .int i
    exact ⟨q, snd_val q fun _ => rfl⟩
  · rename_i s z k p
    have e : z = ⟨s.toArray⟩ := by simpa using h
    subst e
    have q : PE X (.Constant (.str ⟨s.toArray⟩) k p) (tX W Φ (.lit (.str s))) := snd_lit pe_str fun S H => .str s
    exact ⟨q, snd_val q fun _ => rfl⟩
  · cases h
theorem both {X : Cx} {e : Ex} {ex : Expr} (q : PE X ex (tX W Φ e)) (he : ∀ whole, isTrue ex X.env whole = (do let v ← whole; standAt ex.pos; holding [v] (truthy v))) : PE X ex (tX W Φ e) ∧ PT X ex (tBl W Φ e) := ⟨q, snd_val q he⟩
/-- a subexpression as an operand -/
theorem opd_of {X : Cx} {e : Ex} {sc : Scope} {ex : Expr} (g : Good T W Φ N X) (hs : X.env.scope = sc) (h : chkX T N e sc ex = true) (p : PE X ex (tX W Φ e)) : PE X ex (tO W Φ e) := by
  refine snd_O p fun i ei => ?_
  subst ei
  unfold chkX at h
  split at h
  · exact snd_name g (hs ▸ h)
  · cases h
theorem PE.no {X : Cx} {e : Ex} {ex : Expr} (h : ∀ ρ Q, ¬ Wg.wX Φ e ρ Q) : PE X ex (tX W Φ e) := ⟨fun pins s σ H Q I ⟨_, _, ρ, Qs, _, hw, _⟩ => (h ρ Qs hw).elim⟩
theorem PT.no {X : Cx} {e : Ex} {ex : Expr} (h : ∀ ρ Q, ¬ Wg.wX Φ e ρ Q) : PT X ex (tBl W Φ e) := ⟨fun pins s σ H Q I ⟨_, _, ρ, Qs, _, hw, _⟩ => (h ρ _ hw).elim⟩
mutual
theorem snd_X : ∀ (e : Ex) (sc : Scope) (ex : Expr) (X : Cx), chkX T N e sc ex = true → Good T W Φ N X → X.env.scope = sc → PE X ex (tX W Φ e) ∧ PT X ex (tBl W Φ e)
  | .lit d, sc, ex, X, h, g, hs => by
    unfold chkX at h
    exact snd_cst h
  | .var i, sc, ex, X, h, g, hs => by
    unfold chkX at h
    split at h
    · rename_i x p
      exact both (snd_var (W := W) (Φ := Φ) (snd_name (p := p) g (hs ▸ h))) fun _ => rfl
    · cases h
  | .glb k, sc, ex, X, h, g, hs => by
    unfold chkX at h
    split at h
    · rename_i x p
      unfold gnB at h
      simp only [Bool.and_eq_true, decide_eq_true_eq] at h
      obtain ⟨h1, h2, _⟩ := glB_ok h.2
      obtain ⟨v, u, d, hm, hr, hd, hv⟩ := g.con k x h.1
      exact both (snd_glb (W := W) (Φ := Φ) (g := k) (pe_glob (pos := p) (by show X.env.scope.names.lookup x = _; rw [hs]; exact h1) hm hr h2) hd hv) fun _ => rfl
    · cases h
  | .bin o a b, sc, ex, X, h, g, hs => by
    unfold chkX at h
    split at h
    · simp only [Bool.and_eq_true, decide_eq_true_eq] at h
      obtain ⟨⟨rfl, h1⟩, h2⟩ := h
      exact both (snd_bin (W := W) (Φ := Φ) g.hK (o := o) (opd_of g hs h1 (snd_X a sc _ X h1 g hs).1) (opd_of g hs h2 (snd_X b sc _ X h2 g hs).1)) fun _ => rfl
    · cases h
  | .neg a, sc, ex, X, h, g, hs => by
    unfold chkX at h
    split at h
    · exact both (snd_neg (W := W) (Φ := Φ) (snd_X a sc _ X h g hs).1) fun _ => rfl
    · cases h
  | .not a, sc, ex, X, h, g, hs => by
    unfold chkX at h
    split at h
    · exact ⟨snd_not (snd_X a sc _ X h g hs).1, snd_notT (snd_X a sc _ X h g hs).2⟩
    · cases h
  | .cmp o a b, sc, ex, X, h, g, hs => by
    unfold chkX at h
    split at h
    · simp only [Bool.and_eq_true, decide_eq_true_eq] at h
      obtain ⟨⟨rfl, h1⟩, h2⟩ := h
      exact snd_cmp g.hK g.hu (opd_of g hs h1 (snd_X a sc _ X h1 g hs).1) (opd_of g hs h2 (snd_X b sc _ X h2 g hs).1) (chkX_pl h2)
    · cases h
  | .chn o1 o2 a b c, sc, ex, X, h, g, hs => by
    unfold chkX at h
    split at h
    · simp only [Bool.and_eq_true, decide_eq_true_eq] at h
      obtain ⟨⟨⟨⟨rfl, rfl⟩, h1⟩, h2⟩, h3⟩ := h
      exact snd_chn g.hK g.hu (opd_of g hs h1 (snd_X a sc _ X h1 g hs).1) (opd_of g hs h2 (snd_X b sc _ X h2 g hs).1) (opd_of g hs h3 (snd_X c sc _ X h3 g hs).1) (chkX_pl h3)
    · cases h
  | .and a b, sc, ex, X, h, g, hs => by
    unfold chkX at h
    split at h
    · simp only [Bool.and_eq_true] at h
      have qa := snd_X a sc _ X h.1 g hs
      have qb := snd_X b sc _ X h.2 g hs
      exact snd_and1 qa.1 qa.2 qb.1 qb.2
    · simp only [Bool.and_eq_true] at h
      have qa := snd_X a sc _ X h.1 g hs
      have qb := snd_X b sc _ X h.2 g hs
      exact snd_and2 qa.1 qa.2 qb.1 qb.2
    · cases h
  | .or a b, sc, ex, X, h, g, hs => by
    unfold chkX at h
    split at h
    · simp only [Bool.and_eq_true] at h
      have qa := snd_X a sc _ X h.1 g hs
      have qb := snd_X b sc _ X h.2 g hs
      exact snd_or1 qa.1 qa.2 qb.1 qb.2
    · simp only [Bool.and_eq_true] at h
      have qa := snd_X a sc _ X h.1 g hs
      have qb := snd_X b sc _ X h.2 g hs
      exact snd_or2 qa.1 qa.2 qb.1 qb.2
    · cases h
  | .ife c a b, sc, ex, X, h, g, hs => by
    unfold chkX at h
    split at h
    · simp only [Bool.and_eq_true] at h
      have qc := snd_X c sc _ X h.1.1 g hs
      have qa := snd_X a sc _ X h.1.2 g hs
      have qb := snd_X b sc _ X h.2 g hs
      exact snd_ife qc.2 qa.1 qa.2 qb.1 qb.2
    · cases h
  | .tup es, sc, ex, X, h, g, hs => by
    unfold chkX at h
    split at h
    · simp only [Bool.and_eq_true, decide_eq_true_eq] at h
      exact both (snd_tup (W := W) (Φ := Φ) h.1 (snd_Xs es sc _ X h.2 g hs).2.1) fun _ => rfl
    · cases h
  | .lst es, sc, ex, X, h, g, hs => by
    unfold chkX at h
    split at h
    · simp only [Bool.and_eq_true, decide_eq_true_eq] at h
      exact both (snd_lst (W := W) (Φ := Φ) h.1 (snd_Xs es sc _ X h.2 g hs).2.1) fun _ => rfl
    · cases h
  | .dct kvs, sc, ex, X, h, g, hs => by
    unfold chkX at h
    split at h
    · rename_i ks vs p
      simp only [Bool.and_eq_true, decide_eq_true_eq] at h
      obtain ⟨q1, q2, q3⟩ := snd_Ks kvs sc ks vs X p h.2 g hs
      cases kvs with
      | n =>
        cases ks with
        | nil =>
          cases vs with
          | nil => exact both snd_dct0 fun _ => rfl
          | cons v vs => cases h.1.1
        | cons k ks => cases q3
      | c k v kvs => exact both (snd_dctN q1 q2 h.1.1 (fun e => by rw [e] at q3; cases q3) h.1.2 q3) fun _ => rfl
    · cases h
  | .idx a i, sc, ex, X, h, g, hs => by
    unfold chkX at h
    split at h
    · simp only [Bool.and_eq_true] at h
      exact both (snd_idx (W := W) (Φ := Φ) g.hK g.hu (opd_of g hs h.1 (snd_X a sc _ X h.1 g hs).1) (opd_of g hs h.2 (snd_X i sc _ X h.2 g hs).1) (chkX_pl h.2)) fun _ => rfl
    · cases h
  | .slc a lo hi, sc, ex, X, h, g, hs => by
    unfold chkX at h
    split at h
    · rename_i x l u p2 p
      simp only [Bool.and_eq_true] at h
      have ql : PO X l (tPrt W Φ lo) := by
        obtain ⟨⟨_, h⟩, _⟩ := h
        cases l with
        | none => dsimp only at h; split at h <;> first | exact snd_prt0 | cases h
        | some l' =>
          refine snd_prt1 (fun q => ?_) (snd_X lo sc _ X h g hs).1
          subst q
          simp [chkX] at h
      have qh : PO X u (tPrt W Φ hi) := by
        obtain ⟨_, h⟩ := h
        cases u with
        | none => dsimp only at h; split at h <;> first | exact snd_prt0 | cases h
        | some l' =>
          refine snd_prt1 (fun q => ?_) (snd_X hi sc _ X h g hs).1
          subst q
          simp [chkX] at h
      exact both (snd_slc (pos := p) (p2 := p2) g.hK (opd_of g hs h.1.1 (snd_X a sc _ X h.1.1 g hs).1) ql qh) fun _ => rfl
    · cases h
  | .rev a, sc, ex, X, h, g, hs => by
    unfold chkX at h
    split at h
    · exact both (snd_rev2 g.hK (opd_of g hs h (snd_X a sc _ X h g hs).1)) fun _ => rfl
    · cases h
  | .noPart, sc, ex, X, h, g, hs => by unfold chkX at h; cases h
  | .call f es, sc, ex, X, h, g, hs => by
    unfold chkX at h
    split at h
    · rename_i x p xs p2
      simp only [Bool.and_eq_true, gnB, decide_eq_true_eq] at h
      obtain ⟨⟨h1, h2⟩, h3⟩ := h
      obtain ⟨g1, g2, _⟩ := glB_ok h2
      obtain ⟨q1, _, q3, q4⟩ := snd_Xs es sc _ X h3 g hs
      exact both (snd_call (np := p) (pos := p2) g h1 (by show X.env.scope.names.lookup x = _; rw [hs]; exact g1) g2 q1 q3 fun e => by
        subst e
        cases es with
        | n => rfl
        | c e es => cases q4) fun _ => rfl
    · cases h
  | .callv f es, sc, ex, X, h, g, hs => by
    unfold chkX at h
    split at h
    · rename_i fx y ys p2
      simp only [Bool.and_eq_true] at h
      obtain ⟨⟨⟨h0, h1⟩, h2⟩, h3⟩ := h
      obtain ⟨q1, _, q3, q4⟩ := snd_Xs es sc _ X h3 g hs
      exact both (snd_callv (pos := p2) g h0 h1 (snd_X f sc _ X h2 g hs).1 q1 q3) fun _ => rfl
    · cases h
  | .blt b es, sc, ex, X, h, g, hs => by
    unfold chkX at h
    split at h
    · rename_i a
      split at h
      · rename_i x p y p2 z p3 p4
        simp only [Bool.and_eq_true, gnB, decide_eq_true_eq] at h
        obtain ⟨⟨⟨h1, h2⟩, ⟨h3, h4⟩⟩, h5⟩ := h
        cases h1
        cases h3
        obtain ⟨g1, _⟩ := glB_ok h2
        obtain ⟨g2, _⟩ := glB_ok h4
        exact both (snd_ssetA g (by show X.env.scope.names.lookup _ = _; rw [hs]; exact g1) (g.blt .sorted _ rfl) (by show X.env.scope.names.lookup _ = _; rw [hs]; exact g2) (opd_of g hs h5 (snd_X a sc _ X h5 g hs).1) (chkX_pl h5)) fun _ => rfl
      · cases h
    · rename_i a
      split at h
      · rename_i x p y p2 z p3 p4
        simp only [Bool.and_eq_true, gnB, decide_eq_true_eq] at h
        obtain ⟨⟨⟨h1, h2⟩, ⟨h3, h4⟩⟩, h5⟩ := h
        cases h1
        cases h3
        obtain ⟨g1, _⟩ := glB_ok h2
        obtain ⟨g2, _⟩ := glB_ok h4
        exact both (snd_lset g (by show X.env.scope.names.lookup _ = _; rw [hs]; exact g1) (g.blt .len _ rfl) (by show X.env.scope.names.lookup _ = _; rw [hs]; exact g2) (opd_of g hs h5 (snd_X a sc _ X h5 g hs).1) (chkX_pl h5)) fun _ => rfl
      · cases h
    · rename_i a
      split at h
      · rename_i x p z y p2 p3
        simp only [Bool.and_eq_true, gnB, decide_eq_true_eq] at h
        obtain ⟨⟨⟨h1, h2⟩, ⟨h3, h4⟩⟩, h5⟩ := h
        cases h1
        cases h3
        obtain ⟨g1, _⟩ := glB_ok h2
        obtain ⟨g2, _⟩ := glB_ok h4
        exact both (snd_isi (b := .isInt) g rfl (by kernel_rfl) g.st.isi (g.blt .int _ rfl) (by show X.env.scope.names.lookup _ = _; rw [hs]; exact g1) (by show X.env.scope.names.lookup _ = _; rw [hs]; exact g2) (by decide) (by decide) (opd_of g hs h5 (snd_X a sc _ X h5 g hs).1) (chkX_pl h5)) fun _ => rfl
      · cases h
    · rename_i a
      split at h
      · rename_i x p z y p2 p3
        simp only [Bool.and_eq_true, gnB, decide_eq_true_eq] at h
        obtain ⟨⟨⟨h1, h2⟩, ⟨h3, h4⟩⟩, h5⟩ := h
        cases h1
        cases h3
        obtain ⟨g1, _⟩ := glB_ok h2
        obtain ⟨g2, _⟩ := glB_ok h4
        exact both (snd_isi (b := .isBool) g rfl (by kernel_rfl) g.st.isi (g.st.bool) (by show X.env.scope.names.lookup _ = _; rw [hs]; exact g1) (by show X.env.scope.names.lookup _ = _; rw [hs]; exact g2) (by decide) (by decide) (opd_of g hs h5 (snd_X a sc _ X h5 g hs).1) (chkX_pl h5)) fun _ => rfl
      · cases h
    · rename_i a
      split at h
      · rename_i x p z y p2 p3
        simp only [Bool.and_eq_true, gnB, decide_eq_true_eq] at h
        obtain ⟨⟨⟨h1, h2⟩, ⟨h3, h4⟩⟩, h5⟩ := h
        cases h1
        cases h3
        obtain ⟨g1, _⟩ := glB_ok h2
        obtain ⟨g2, _⟩ := glB_ok h4
        exact both (snd_isi (b := .isStr) g rfl (by kernel_rfl) g.st.isi (g.st.str) (by show X.env.scope.names.lookup _ = _; rw [hs]; exact g1) (by show X.env.scope.names.lookup _ = _; rw [hs]; exact g2) (by decide) (by decide) (opd_of g hs h5 (snd_X a sc _ X h5 g hs).1) (chkX_pl h5)) fun _ => rfl
      · cases h
    · rename_i a
      split at h
      · rename_i x p z y p2 p3
        simp only [Bool.and_eq_true, gnB, decide_eq_true_eq] at h
        obtain ⟨⟨⟨h1, h2⟩, ⟨h3, h4⟩⟩, h5⟩ := h
        cases h1
        cases h3
        obtain ⟨g1, _⟩ := glB_ok h2
        obtain ⟨g2, _⟩ := glB_ok h4
        exact both (snd_isi (b := .isTup) g rfl (by kernel_rfl) g.st.isi (g.blt .tuple _ rfl) (by show X.env.scope.names.lookup _ = _; rw [hs]; exact g1) (by show X.env.scope.names.lookup _ = _; rw [hs]; exact g2) (by decide) (by decide) (opd_of g hs h5 (snd_X a sc _ X h5 g hs).1) (chkX_pl h5)) fun _ => rfl
      · cases h
    · rename_i a
      split at h
      · rename_i x p z y p2 p3
        simp only [Bool.and_eq_true, gnB, decide_eq_true_eq] at h
        obtain ⟨⟨⟨h1, h2⟩, ⟨h3, h4⟩⟩, h5⟩ := h
        cases h1
        cases h3
        obtain ⟨g1, _⟩ := glB_ok h2
        obtain ⟨g2, _⟩ := glB_ok h4
        exact both (snd_isi (b := .isList) g rfl (by kernel_rfl) g.st.isi (g.blt .list _ rfl) (by show X.env.scope.names.lookup _ = _; rw [hs]; exact g1) (by show X.env.scope.names.lookup _ = _; rw [hs]; exact g2) (by decide) (by decide) (opd_of g hs h5 (snd_X a sc _ X h5 g hs).1) (chkX_pl h5)) fun _ => rfl
      · cases h
    · split at h
      · rename_i x p xs p2
        simp only [Bool.and_eq_true, gnB, decide_eq_true_eq] at h
        obtain ⟨⟨⟨h1, h2⟩, h4⟩, h3⟩ := h
        obtain ⟨g1, g2, g3⟩ := glB_ok h2
        obtain ⟨q1, _, q3, q4⟩ := snd_Xs es sc _ X h3 g hs
        cases xs with
        | nil => cases h4
        | cons e xs =>
          exact both (snd_blt (np := p) (pos := p2) g h1 (by show X.env.scope.names.lookup x = _; rw [hs]; exact g1) g2 g3 q1 q3) fun _ => rfl
      · cases h
  | .rng t es, sc, ex, X, h, g, hs => by
    unfold chkX at h
    split at h
    · rename_i x p y p2 ys p3 p4
      simp only [Bool.and_eq_true, gnB, decide_eq_true_eq, Bool.or_eq_true, beq_iff_eq] at h
      obtain ⟨⟨⟨⟨h1, h2⟩, ⟨h3, h4⟩⟩, h5⟩, h6⟩ := h
      cases h3
      obtain ⟨g1, _⟩ := glB_ok h2
      obtain ⟨g2, _⟩ := glB_ok h4
      have hg2 : Gl X "range" := by show X.env.scope.names.lookup _ = _; rw [hs]; exact g2
      have prg : PRg X (.Call (.Name "range" p2) ys [] p3) (tRgO W Φ es) := by
        cases es with
        | n => rcases h6 with h6 | h6 <;> cases h6
        | c a es =>
          cases ys with
          | nil => unfold chkXs at h5; cases h5
          | cons y1 ys =>
            have h5 : (chkX T N a sc y1 && chkXs T N es sc ys) = true := by unfold chkXs at h5; exact h5
            simp only [Bool.and_eq_true] at h5
            have qa := opd_of g hs h5.1 (snd_X a sc _ X h5.1 g hs).1
            cases es with
            | n =>
              cases ys with
              | nil => exact prgO1 g hg2 qa (chkX_pl h5.1)
              | cons y2 ys => have h7 := h5.2; unfold chkXs at h7; cases h7
            | c b es =>
              cases ys with
              | nil => have h7 := h5.2; unfold chkXs at h7; cases h7
              | cons y2 ys =>
                have h7 : (chkX T N b sc y2 && chkXs T N es sc ys) = true := by have h7 := h5.2; unfold chkXs at h7; exact h7
                simp only [Bool.and_eq_true] at h7
                have qb := opd_of g hs h7.1 (snd_X b sc _ X h7.1 g hs).1
                cases es with
                | n =>
                  cases ys with
                  | nil => exact prgO2 g hg2 qa qb (chkX_pl h5.1) (chkX_pl h7.1)
                  | cons y3 ys => have h8 := h7.2; unfold chkXs at h8; cases h8
                | c d es => rcases h6 with h6 | h6 <;> simp [Wg.Exs.len] at h6
      cases t with
      | true =>
        cases h1
        exact both (snd_rngT g (by show X.env.scope.names.lookup _ = _; rw [hs]; exact g1) (g.blt .tuple _ rfl) prg rfl) fun _ => rfl
      | false =>
        cases h1
        exact both (snd_rngL g (by show X.env.scope.names.lookup _ = _; rw [hs]; exact g1) (g.blt .list _ rfl) prg rfl) fun _ => rfl
    · cases h
  | .mth m o es, sc, ex, X, h, g, hs => by
    unfold chkX at h
    split at h
    · rename_i k a
      split at h
      · rename_i x np nm ap y cp
        simp only [Bool.and_eq_true, decide_eq_true_eq] at h
        obtain ⟨⟨⟨rfl, h1⟩, h2⟩, h3⟩ := h
        exact both (snd_append (W := W) (Φ := Φ) (snd_name (p := np) g (hs ▸ h2)) (snd_X a sc _ X h3 g hs).1 (chkX_pl h3) rfl h1) fun _ => rfl
      · cases h
    · rename_i k a
      split at h
      · rename_i x np nm ap y cp
        simp only [Bool.and_eq_true, decide_eq_true_eq] at h
        obtain ⟨⟨⟨rfl, h1⟩, h2⟩, h3⟩ := h
        exact both (snd_extend (W := W) (Φ := Φ) (snd_name (p := np) g (hs ▸ h2)) (snd_X a sc _ X h3 g hs).1 (chkX_pl h3) rfl h1) fun _ => rfl
      · cases h
    · rename_i k a
      split at h
      · rename_i x np nm ap y cp
        simp only [Bool.and_eq_true, decide_eq_true_eq] at h
        obtain ⟨⟨⟨rfl, h1⟩, h2⟩, h3⟩ := h
        exact both (snd_update (W := W) (Φ := Φ) (snd_name (p := np) g (hs ▸ h2)) (snd_X a sc _ X h3 g hs).1 (chkX_pl h3) rfl h1) fun _ => rfl
      · cases h
    · rename_i k
      split at h
      · rename_i x np nm ap cp
        simp only [Bool.and_eq_true, decide_eq_true_eq] at h
        obtain ⟨⟨rfl, h1⟩, h2⟩ := h
        exact both (snd_pop (W := W) (Φ := Φ) (snd_name (p := np) g (hs ▸ h2)) rfl h1) fun _ => rfl
      · cases h
    · split at h
      · rename_i x nm ap y ys cp
        simp only [Bool.and_eq_true, decide_eq_true_eq] at h
        obtain ⟨⟨⟨⟨⟨rfl, h1⟩, h2⟩, h3⟩, h4⟩, h5⟩ := h
        obtain ⟨q1, _, q3, q4⟩ := snd_Xs es sc _ X h4 g hs
        exact both (snd_index g (opd_of g hs h3 (snd_X o sc _ X h3 g hs).1) q1 q3 h5 h2 h1) fun _ => rfl
      · cases h
    · split at h
      · rename_i x nm ap y ys cp
        simp only [Bool.and_eq_true, decide_eq_true_eq] at h
        obtain ⟨⟨⟨⟨⟨rfl, h1⟩, h2⟩, h3⟩, h4⟩, h5⟩ := h
        obtain ⟨q1, _, q3, q4⟩ := snd_Xs es sc _ X h4 g hs
        exact both (snd_count g (opd_of g hs h3 (snd_X o sc _ X h3 g hs).1) q1 q3 h5 h2 h1) fun _ => rfl
      · cases h
    · cases h
  | .lc own elt t it c, sc, ex, X, h, g, hs => by
    unfold chkX at h
    split at h
    · rename_i x tg iter ifs scope p
      simp only [Bool.and_eq_true] at h
      obtain ⟨⟨⟨⟨⟨⟨⟨h1, h2⟩, h3⟩, hk⟩, h4⟩, h5⟩, h6⟩, h7⟩ := h
      have hk : ∀ i ∈ own, W.keep i = none := fun i hi => g.kp i (by simpa using List.all_eq_true.mp hk i hi)
      obtain ⟨qi, pi⟩ := snd_I it sc iter X tg h4 g hs (fun z => by
        obtain ⟨ts, rfl⟩ := zipB_tp h3 z
        unfold chkT at h5
        split at h5
        · exact ⟨_, _, _, rfl⟩
        · cases h5)
      have hsc : ∀ cl C, (compEnvC scope cl C X.env).scope = relS scope sc := fun cl C => by rw [← hs]; rfl
      exact both (snd_lc (pos := p) g qi (blkOk_by (by rw [g.hN, hs]; exact h1)) (fun s H C cl fp => (snd_T t _ _ tg _ h5 (g.blk s H scope C cl fp) (hsc cl C) rfl).1)
        (fun s H C cl fp => snd_Cs c _ ifs _ h6 (g.blk s H scope C cl fp) (hsc cl C)) (fun s H C cl fp => (snd_X elt _ x _ h7 (g.blk s H scope C cl fp) (hsc cl C)).1) pi hk h2 h3) fun _ => rfl
    · cases h
  | .dc own ka va t it c, sc, ex, X, h, g, hs => by
    unfold chkX at h
    split at h
    · rename_i x y tg iter ifs scope p
      simp only [Bool.and_eq_true] at h
      obtain ⟨⟨⟨⟨⟨⟨⟨⟨h1, h2⟩, h3⟩, hk⟩, h4⟩, h5⟩, h6⟩, h7⟩, h8⟩ := h
      have hk : ∀ i ∈ own, W.keep i = none := fun i hi => g.kp i (by simpa using List.all_eq_true.mp hk i hi)
      obtain ⟨qi, pi⟩ := snd_I it sc iter X tg h4 g hs (fun z => by
        obtain ⟨ts, rfl⟩ := zipB_tp h3 z
        unfold chkT at h5
        split at h5
        · exact ⟨_, _, _, rfl⟩
        · cases h5)
      have hsc : ∀ cl C, (compEnvC scope cl C X.env).scope = relS scope sc := fun cl C => by rw [← hs]; rfl
      exact both (snd_dc (pos := p) g qi (blkOk_by (by rw [g.hN, hs]; exact h1)) (fun s H C cl fp => (snd_T t _ _ tg _ h5 (g.blk s H scope C cl fp) (hsc cl C) rfl).1)
        (fun s H C cl fp => snd_Cs c _ ifs _ h6 (g.blk s H scope C cl fp) (hsc cl C)) (fun s H C cl fp => (snd_X ka _ x _ h7 (g.blk s H scope C cl fp) (hsc cl C)).1) (fun s H C cl fp => (snd_X va _ y _ h8 (g.blk s H scope C cl fp) (hsc cl C)).1) pi hk h2 h3) fun _ => rfl
    · cases h
  | .lam _ _, sc, ex, X, h, g, hs => ⟨PE.no fun _ _ h => h, PT.no fun _ _ h => h⟩
  | .minKey _ _ _ _, sc, ex, X, h, g, hs => ⟨PE.no fun _ _ h => h, PT.no fun _ _ h => h⟩
theorem snd_Ks : ∀ (kvs : Kvs) (sc : Scope) (ks : List (Option Expr)) (vs : List Expr) (X : Cx) (p : Pos), chkKs T N kvs sc ks vs = true → Good T W Φ N X → X.env.scope = sc → PPs X p ks vs (trsOf W Φ kvs) ∧ ks.all (·.isSome) = true ∧ (trsOf W Φ kvs).length = ks.length
  | .n, sc, ks, vs, X, p, h, g, hs => by
    unfold chkKs at h
    split at h
    · exact ⟨pps_nil, rfl, rfl⟩
    · cases h
  | .c k v kvs, sc, ks, vs, X, p, h, g, hs => by
    unfold chkKs at h
    split at h
    · simp only [Bool.and_eq_true] at h
      obtain ⟨q1, q2, q3⟩ := snd_Ks kvs sc _ _ X p h.2 g hs
      exact ⟨pps_cons (snd_X k sc _ X h.1.1 g hs).1 (snd_X v sc _ X h.1.2 g hs).1 q1, by rw [List.all_cons, q2]; rfl, congrArg (· + 1) q3⟩
    · cases h
theorem snd_Xs : ∀ (es : Exs) (sc : Scope) (xs : List Expr) (X : Cx), chkXs T N es sc xs = true → Good T W Φ N X → X.env.scope = sc → PA X xs (tOs W Φ es) ∧ PA X xs (tVs W Φ es) ∧ xs.all plB = true ∧ xs.length = es.len
  | .n, sc, xs, X, h, g, hs => by
    unfold chkXs at h
    split at h
    · exact ⟨snd_Os0, snd_Vs0, rfl, rfl⟩
    · cases h
  | .c e es, sc, xs, X, h, g, hs => by
    unfold chkXs at h
    split at h
    · simp only [Bool.and_eq_true] at h
      have q := (snd_X e sc _ X h.1 g hs).1
      obtain ⟨q1, q2, q3, q4⟩ := snd_Xs es sc _ X h.2 g hs
      have p := chkX_pl h.1
      exact ⟨snd_Os1 (opd_of g hs h.1 q) q1 p, snd_Vs1 q q2 p, by simp [p, q3], by rw [List.length_cons, q4]; rfl⟩
    · cases h
theorem snd_Cs : ∀ (es : Exs) (sc : Scope) (xs : List Expr) (X : Cx), chkCs T N es sc xs = true → Good T W Φ N X → X.env.scope = sc → PTs X xs (tCs W Φ es)
  | .n, sc, xs, X, h, g, hs => by
    unfold chkCs at h
    split at h
    · exact snd_Cs0
    · cases h
  | .c e .n, sc, xs, X, h, g, hs => by
    unfold chkCs at h
    split at h
    · exact snd_Cs1 (snd_X e sc _ X h g hs).2
    · cases h
  | .c e (.c _ _), sc, xs, X, h, g, hs => by
    unfold chkCs at h
    cases h
theorem snd_I : ∀ (it : Wg.It) (sc : Scope) (ex : Expr) (X : Cx) (tg : Expr), chkI T N it sc ex = true → Good T W Φ N X → X.env.scope = sc → (isZip it → ∃ elts kk p, tg = .Tuple elts kk p) → PI X tg ex (tI W Φ it) ∧ plB ex = true
  | .e a, sc, ex, X, tg, h, g, hs, hz => by
    unfold chkI at h
    exact ⟨snd_Ie g.hK (snd_X a sc _ X h g hs).1 (fun i ei => by
      subst ei
      unfold chkX at h
      split at h
      · exact snd_name g (hs ▸ h)
      · cases h), chkX_pl h⟩
  | .range es, sc, ex, X, tg, h, g, hs, hz => by
    unfold chkI at h
    split at h
    · rename_i x np a p
      simp only [Bool.and_eq_true, gnB, decide_eq_true_eq] at h
      obtain ⟨⟨h1, h2⟩, h3⟩ := h
      cases h1
      obtain ⟨g1, _⟩ := glB_ok h2
      obtain ⟨q1, _, q3, q4⟩ := snd_Xs es sc _ X h3 g hs
      exact ⟨snd_Ir1 g (by show X.env.scope.names.lookup _ = _; rw [hs]; exact g1) q1 q4.symm (by simpa using q3), rfl⟩
    · rename_i x np a b p
      simp only [Bool.and_eq_true, gnB, decide_eq_true_eq] at h
      obtain ⟨⟨h1, h2⟩, h3⟩ := h
      cases h1
      obtain ⟨g1, _⟩ := glB_ok h2
      obtain ⟨q1, _, q3, q4⟩ := snd_Xs es sc _ X h3 g hs
      simp only [List.all_cons, List.all_nil, Bool.and_eq_true, Bool.and_true] at q3
      exact ⟨snd_Ir2 g (by show X.env.scope.names.lookup _ = _; rw [hs]; exact g1) q1 q4.symm q3.1 q3.2, rfl⟩
    · rename_i x np a b c p
      simp only [Bool.and_eq_true, gnB, decide_eq_true_eq] at h
      obtain ⟨⟨h1, h2⟩, h3⟩ := h
      cases h1
      obtain ⟨g1, _⟩ := glB_ok h2
      obtain ⟨q1, _, q3, q4⟩ := snd_Xs es sc _ X h3 g hs
      simp only [List.all_cons, List.all_nil, Bool.and_eq_true, Bool.and_true] at q3
      exact ⟨snd_Ir3 g (by show X.env.scope.names.lookup _ = _; rw [hs]; exact g1) q1 q4.symm q3.1 q3.2.1 q3.2.2, rfl⟩
    · cases h
  | .zip es, sc, ex, X, tg, h, g, hs, hz => by
    unfold chkI at h
    split at h
    · rename_i x np a b p
      simp only [Bool.and_eq_true, gnB, decide_eq_true_eq] at h
      obtain ⟨⟨h1, h2⟩, h3⟩ := h
      cases h1
      obtain ⟨g1, _⟩ := glB_ok h2
      obtain ⟨q1, _, q3, q4⟩ := snd_Xs es sc _ X h3 g hs
      simp only [List.all_cons, List.all_nil, Bool.and_eq_true, Bool.and_true] at q3
      obtain ⟨elts, kk, tp, rfl⟩ := hz trivial
      exact ⟨snd_Iz g (by show X.env.scope.names.lookup _ = _; rw [hs]; exact g1) q1 q3.1 q3.2, rfl⟩
    · cases h
theorem snd_T : ∀ (t : Tg) (sc : Scope) (fnb : Str → Bool) (ex : Expr) (X : Cx), chkT T N t sc fnb ex = true → Good T W Φ N X → X.env.scope = sc → X.fn = fnb → PG X ex (tT W Φ t) ∧ plB ex = true
  | .nm i, sc, fnb, ex, X, h, g, hs, hf => by
    unfold chkT at h
    split at h
    · simp only [Bool.and_eq_true, decide_eq_true_eq] at h
      obtain ⟨h1, h2⟩ := locB_ok h.1.2
      exact ⟨snd_nm (g.kp i (by simpa using h.2)) (g.hN ▸ g.nd) (g.hN ▸ h.1.1) (hs ▸ h1) (by rw [hf, hs]; exact h2), rfl⟩
    · cases h
  | .tp ts, sc, fnb, ex, X, h, g, hs, hf => by
    unfold chkT at h
    split at h
    · obtain ⟨q1, q2, q3⟩ := snd_Ts ts sc fnb _ X h g hs hf
      exact ⟨snd_tp g.calm g.hK q1 q2 q3, rfl⟩
    · cases h
  | .sb k i, sc, fnb, ex, X, h, g, hs, hf => by
    unfold chkT at h
    split at h
    · rename_i x np y p
      simp only [Bool.and_eq_true] at h
      exact ⟨snd_sb g.hu (snd_name (p := np) g (hs ▸ h.1)) (snd_X i sc _ X h.2 g hs).1 (chkX_pl h.2), rfl⟩
    · cases h
theorem snd_Ts : ∀ (ts : Tgs) (sc : Scope) (fnb : Str → Bool) (xs : List Expr) (X : Cx), chkTs T N ts sc fnb xs = true → Good T W Φ N X → X.env.scope = sc → X.fn = fnb → PGs X xs (tTs W Φ ts) ∧ xs.all plB = true ∧ xs.length = ts.len
  | .n, sc, fnb, xs, X, h, g, hs, hf => by
    unfold chkTs at h
    split at h
    · exact ⟨snd_Ts0, rfl, rfl⟩
    · cases h
  | .c t ts, sc, fnb, xs, X, h, g, hs, hf => by
    unfold chkTs at h
    split at h
    · simp only [Bool.and_eq_true] at h
      obtain ⟨p1, p2⟩ := snd_T t sc fnb _ X h.1 g hs hf
      obtain ⟨q1, q2, q3⟩ := snd_Ts ts sc fnb _ X h.2 g hs hf
      exact ⟨snd_Ts1 p1 q1 p2, by simp [p2, q2], by rw [List.length_cons, q3]; rfl⟩
    · cases h
end
end
end WgS
set_option Elab.async false
set_option linter.all false
set_option maxRecDepth 100000
set_option maxHeartbeats 4000000
/-! WgS: statements that the checker accepts; the functions of a program. -/
namespace WgS
open PySem PySem.Spec PyProof.Rows L2
open Wg (D Slot Opd Ex Exs Tg Tgs Kvs Sts BOp COp Blt Mth LB)
section
variable {T : Tab} {W : Wd} {Φ : Wg.Ctx} {N : List Str}
theorem get_listP {X : Cx} : PGet X (rIxL X.K) := by
  intro pins s σ H x y v u Q I rx ry h
  obtain ⟨p, xs, i, z, rfl, rfl, hq, he, q⟩ := h
  cases rx
  obtain ⟨t, rfl⟩ := ry
  obtain ⟨its, r, pl, hz⟩ := I.list hq
  obtain ⟨j, h1, h2, h3, h4, h5⟩ := atI_get he
  obtain ⟨w, ew, rw'⟩ := r.get h2
  have hl := r.length
  have hn := line63
  have fin : EP X pins σ Q w s := ⟨z, H, I, rw', q⟩
  by_cases h0 : 0 ≤ i
  · have hj : i.toNat = j := by
      rw [seqIndex_of h0 h5] at h1
      exact Option.some.inj h1
    exact wpAny_getItem_list pl.isList h0 (by omega) (by rw [hj]; simpa using ew) fin
  · have hj : (i + (its.toArray.size : Int)).toNat = j := by
      rw [seqIndex_neg (by omega) h4] at h1
      rw [List.size_toArray, ← hl]
      exact Option.some.inj h1
    exact wpAny_getItem_list_neg pl.isList (by omega) (by rw [List.size_toArray] <;> omega) (by omega) (by rw [hj]; simpa using ew) fin
theorem snd_augS {X : Cx} {l r ex : Expr} {k : Nat} {i e : Ex} {o : BOp} {tpos pos : Pos} (hu : X.A.units + 65 < cLine) (hK : W.K = X.K) (hv : PE X l (tVar k)) (hi : PE X r (tX W Φ i)) (he : PE X ex (tX W Φ e)) (hp : plB r = true) :
    PS X (.AugAssign (.Subscript l r tpos) (opOf o) ex pos) (tW W fun ρ E => Wg.wS Φ (.augS k i o e) ρ E) := by
  have ha : ∀ ov iv new, augStore r ov iv new = (do holding [new, ov, iv] (setItem ov iv new); release [new, ov, iv] []; pure .next) := by
    intro ov iv new
    cases r <;> first | rfl | cases hp
  refine PS.imp (ps_augS hv hi get_listP he (ip_R o) (set_ld hu) ha) fun D σ H ⟨Z, S, ρ, E, r, hw, f⟩ => ?_
  unfold Wg.wS at hw
  obtain ⟨v, hv⟩ := r.live hw.1
  refine ⟨v, hv, Z, S, ρ, _, r, hw.2, fun vi H1 S1 ρ1 s1 e1 r1 ri q => ?_⟩
  obtain ⟨S2, e2, r2, ri⟩ := fin_val r1 ri
  obtain ⟨ho, q⟩ := q
  unfold Wg.ownL at ho
  split at ho
  · rename_i l el
    obtain ⟨a, xs, h1, h2, h3, h4⟩ := r2.ol k l el
    rw [hv] at h1
    cases h1
    unfold Wg.peek at q
    rw [el] at q
    have q : Wg.idxV (.lst l) s1.val _ := q
    unfold Wg.idxV at q
    revert q ri
    generalize hi1 : s1.val = i1
    intro ri q
    cases i1 with
    | int j =>
      have q : (match (Wg.ixOf l.length j).bind (l[·]?) with | some d => _ | none => False) := q
      split at q
      · rename_i d ed
        cases ri
        obtain ⟨vd, g1, g2⟩ := atI_of h4 ed
        refine ⟨a, xs, j, vd, rfl, rfl, SqL.of h2, g1, Z, S2, ρ1, _, r2, q, fun y H3 S3 ρ3 s2 e3 r3 ry q => ?_⟩
        obtain ⟨S4, e4, r4, ry⟩ := fin_val r3 ry
        revert q ry
        generalize s2.val = sv
        intro q ry
        split at q
        · have g2 := Rep.mono (e3.trans e4).s _ _ g2
          cases g2
          cases ry
          refine ⟨_, _, rfl, rfl, ?_⟩
          obtain ⟨o', ho', h⟩ := setK_ok r4 (Rep.int j) (Rep.int _) q (Q := fun H6 => D.nx σ H6) fun H' ρ' e5 r5 q5 => f.nx σ H' S4 ρ' ((e1.trans e2).trans ((e3.trans e4).trans e5)) r5 q5
          rw [hv] at ho'
          cases ho'
          exact h
        · exact q.elim
      · exact q.elim
    | _ => exact (show False from q).elim
  · exact ho.elim
theorem PS.no {X : Cx} {st : Stmt} {w : Wg.Env → Wg.Ends → Prop} (h : ∀ ρ E, ¬ w ρ E) : PS X st (tW W w) := ⟨fun pins s σ H D I ⟨_, _, ρ, E, _, hw, _⟩ => (h ρ E hw).elim⟩
/-- what a comprehension is made of -/
theorem lc_parts {sc : Scope} {e : Ex} {elt : Expr} {gs : List Comprehension} {scope : Scope} {p : Pos} (h : chkX T N e sc (.ListComp elt gs scope p) = true) :
    (∃ own a t it c tg iter ifs, e = .lc own a t it c ∧ gs = [⟨tg, iter, ifs, 0⟩] ∧ chkX T N (.lc own a t it c) sc (.ListComp elt [⟨tg, iter, ifs, 0⟩] scope p) = true) ∨ ∀ ρ Q, ¬ Wg.wX Φ e ρ Q := by
  cases e with
  | lc own a t it c =>
    have h' := h
    unfold chkX at h
    split at h
    · rename_i x tg iter ifs scope' p' heq
      cases heq
      exact .inl ⟨own, a, t, it, c, tg, iter, ifs, rfl, rfl, h'⟩
    · cases h
  | lam _ _ => exact .inr fun _ _ h => h
  | minKey _ _ _ _ => exact .inr fun _ _ h => h
  | _ => exfalso; unfold chkX at h; (repeat' split at h) <;> first | contradiction | (simp [chkLit] at h; done)
theorem snd_lcS {X : Cx} {i : Nat} {y : Str} {py spos : Pos} {own : List Nat} {a : Ex} {t : Tg} {it : Wg.It} {c : Exs} {sc : Scope} {elt tg iter : Expr} {ifs : List Expr} {scope : Scope} {p : Pos} (h : chkX T N (.lc own a t it c) sc (.ListComp elt [⟨tg, iter, ifs, 0⟩] scope p) = true)
    (g : Good T W Φ N X) (hki : W.keep i = none) (hs : X.env.scope = sc) (hy : X.N[i]? = some y) (hyl : X.env.scope.names.lookup y = some .local) (hsw : swapsWith (.ListComp elt [⟨tg, iter, ifs, 0⟩] scope p) (some (.Name y py)) spos.line X.env = pure true) :
    PS X (.Assign [.Name y py] (.ListComp elt [⟨tg, iter, ifs, 0⟩] scope p) spos) (tW W fun ρ E => Wg.wX Φ (.lc own a t it c) ρ fun s ρ1 => Wg.wT Φ (.nm i) s ρ1 E.nx) := by
  unfold chkX at h
  simp only [Bool.and_eq_true] at h
  obtain ⟨⟨⟨⟨⟨⟨⟨h1, h2⟩, h3⟩, hk⟩, h4⟩, h5⟩, h6⟩, h7⟩ := h
  have hk : ∀ i ∈ own, W.keep i = none := fun i hi => g.kp i (by simpa using List.all_eq_true.mp hk i hi)
  obtain ⟨qi, pi⟩ := snd_I it sc iter X tg h4 g hs (fun z => by
    obtain ⟨ts, rfl⟩ := zipB_tp h3 z
    unfold chkT at h5
    split at h5
    · exact ⟨_, _, _, rfl⟩
    · cases h5)
  have hsc : ∀ cl C, (compEnvC scope cl C X.env).scope = relS scope sc := fun cl C => by rw [← hs]; rfl
  refine lockS (it := it) ?_ fun i ρ l Q ei hs hw => by
    subst ei
    unfold Wg.wX at hw ⊢
    exact wI_frz hs hw
  exact PS.imp (snd_setLc (spos := spos) g hy hyl hsw qi (blkOk_by (by rw [g.hN, hs]; exact h1)) (fun s H C cl fp => (snd_T t _ _ tg _ h5 (g.blk s H scope C cl fp) (hsc cl C) rfl).1)
        (fun s H C cl fp => snd_Cs c _ ifs _ h6 (g.blk s H scope C cl fp) (hsc cl C)) (fun s H C cl fp => (snd_X a _ elt _ h7 (g.blk s H scope C cl fp) (hsc cl C)).1) pi hk h2 h3) (asgNk_imp hki)
theorem dc_parts {sc : Scope} {e : Ex} {kx vx : Expr} {gs : List Comprehension} {scope : Scope} {p : Pos} (h : chkX T N e sc (.DictComp kx vx gs scope p) = true) :
    (∃ own ka va t it c tg iter ifs, e = .dc own ka va t it c ∧ gs = [⟨tg, iter, ifs, 0⟩] ∧ chkX T N (.dc own ka va t it c) sc (.DictComp kx vx [⟨tg, iter, ifs, 0⟩] scope p) = true) ∨ ∀ ρ Q, ¬ Wg.wX Φ e ρ Q := by
  cases e with
  | dc own ka va t it c =>
    have h' := h
    unfold chkX at h
    split at h
    · rename_i x y tg iter ifs scope' p' heq
      cases heq
      exact .inl ⟨own, ka, va, t, it, c, tg, iter, ifs, rfl, rfl, h'⟩
    · cases h
  | lam _ _ => exact .inr fun _ _ h => h
  | minKey _ _ _ _ => exact .inr fun _ _ h => h
  | _ => exfalso; unfold chkX at h; (repeat' split at h) <;> first | contradiction | (simp [chkLit] at h; done)
theorem snd_dcS {X : Cx} {i : Nat} {y : Str} {py spos : Pos} {own : List Nat} {ka va : Ex} {t : Tg} {it : Wg.It} {c : Exs} {sc : Scope} {kx vx tg iter : Expr} {ifs : List Expr} {scope : Scope} {p : Pos} (h : chkX T N (.dc own ka va t it c) sc (.DictComp kx vx [⟨tg, iter, ifs, 0⟩] scope p) = true)
    (g : Good T W Φ N X) (hki : W.keep i = none) (hs : X.env.scope = sc) (hy : X.N[i]? = some y) (hyl : X.env.scope.names.lookup y = some .local) (hsw : swapsWith (.DictComp kx vx [⟨tg, iter, ifs, 0⟩] scope p) (some (.Name y py)) spos.line X.env = pure true) :
    PS X (.Assign [.Name y py] (.DictComp kx vx [⟨tg, iter, ifs, 0⟩] scope p) spos) (tW W fun ρ E => Wg.wX Φ (.dc own ka va t it c) ρ fun s ρ1 => Wg.wT Φ (.nm i) s ρ1 E.nx) := by
  unfold chkX at h
  simp only [Bool.and_eq_true] at h
  obtain ⟨⟨⟨⟨⟨⟨⟨⟨h1, h2⟩, h3⟩, hk⟩, h4⟩, h5⟩, h6⟩, h7⟩, h8⟩ := h
  have hk : ∀ i ∈ own, W.keep i = none := fun i hi => g.kp i (by simpa using List.all_eq_true.mp hk i hi)
  obtain ⟨qi, pi⟩ := snd_I it sc iter X tg h4 g hs (fun z => by
    obtain ⟨ts, rfl⟩ := zipB_tp h3 z
    unfold chkT at h5
    split at h5
    · exact ⟨_, _, _, rfl⟩
    · cases h5)
  have hsc : ∀ cl C, (compEnvC scope cl C X.env).scope = relS scope sc := fun cl C => by rw [← hs]; rfl
  refine lockS (it := it) ?_ fun i ρ l Q ei hs hw => dc_frz ei hs hw
  exact PS.imp (snd_setDc (spos := spos) g hy hyl hsw qi (blkOk_by (by rw [g.hN, hs]; exact h1)) (fun s H C cl fp => (snd_T t _ _ tg _ h5 (g.blk s H scope C cl fp) (hsc cl C) rfl).1)
        (fun s H C cl fp => snd_Cs c _ ifs _ h6 (g.blk s H scope C cl fp) (hsc cl C)) (fun s H C cl fp => (snd_X ka _ kx _ h7 (g.blk s H scope C cl fp) (hsc cl C)).1) (fun s H C cl fp => (snd_X va _ vx _ h8 (g.blk s H scope C cl fp) (hsc cl C)).1) pi hk h2 h3) (asgNk_imp hki)
/-- the parts of a pair of targets -/
theorem chkTs_nm {sc : Scope} {fnb : Str → Bool} {t : Tg} {x : Str} {p : Pos} (h : chkT T N t sc fnb (.Name x p) = true) : ∃ i, t = .nm i ∧ N[i]? = some x ∧ T.keep i = false := by
  cases t with
  | nm i =>
    have h : (decide (N[i]? = some x) && locB sc fnb x && !T.keep i) = true := by unfold chkT at h; exact h
    simp only [Bool.and_eq_true, decide_eq_true_eq] at h
    exact ⟨i, rfl, h.1.1, by simpa using h.2⟩
  | tp ts => have h : false = true := by unfold chkT at h; exact h
             cases h
  | sb k i => have h : false = true := by unfold chkT at h; exact h
              cases h
theorem chkX_tup {sc : Scope} {e : Ex} {xs : List Expr} {k : Nat} {p : Pos} (h : chkX T N e sc (.Tuple xs k p) = true) : ∃ es, e = .tup es ∧ chkXs T N es sc xs = true := by
  cases e with
  | tup es =>
    have h : (decide (es.len ≤ 1000) && chkXs T N es sc xs) = true := by unfold chkX at h; exact h
    simp only [Bool.and_eq_true] at h
    exact ⟨es, rfl, h.2⟩
  | _ => exfalso; unfold chkX at h; (repeat' split at h) <;> first | contradiction | (simp [chkLit] at h; done)
theorem chkXs_cons {sc : Scope} {es : Exs} {x : Expr} {xs : List Expr} (h : chkXs T N es sc (x :: xs) = true) : ∃ e es', es = .c e es' ∧ chkXs T N es' sc xs = true := by
  cases es with
  | n => have h : false = true := by unfold chkXs at h; exact h
         cases h
  | c e es =>
    have h : (chkX T N e sc x && chkXs T N es sc xs) = true := by unfold chkXs at h; exact h
    simp only [Bool.and_eq_true] at h
    exact ⟨e, es, rfl, h.2⟩
theorem chkXs_nil {sc : Scope} {es : Exs} (h : chkXs T N es sc [] = true) : es = .n := by
  cases es with
  | n => rfl
  | c e es => have h : false = true := by unfold chkXs at h; exact h
              cases h
theorem chkTs_cons {sc : Scope} {fnb : Str → Bool} {ts : Tgs} {x : Expr} {xs : List Expr} (h : chkTs T N ts sc fnb (x :: xs) = true) : ∃ t ts', ts = .c t ts' ∧ chkT T N t sc fnb x = true ∧ chkTs T N ts' sc fnb xs = true := by
  cases ts with
  | n => have h : false = true := by unfold chkTs at h; exact h
         cases h
  | c t ts =>
    have h : (chkT T N t sc fnb x && chkTs T N ts sc fnb xs) = true := by unfold chkTs at h; exact h
    simp only [Bool.and_eq_true] at h
    exact ⟨t, ts, rfl, h.1, h.2⟩
theorem chkTs_nil {sc : Scope} {fnb : Str → Bool} {ts : Tgs} (h : chkTs T N ts sc fnb [] = true) : ts = .n := by
  cases ts with
  | n => rfl
  | c t ts => have h : false = true := by unfold chkTs at h; exact h
              cases h
theorem chkT_tuple {sc : Scope} {fnb : Str → Bool} {t : Tg} {xs : List Expr} {k : Nat} {p : Pos} (h : chkT T N t sc fnb (.Tuple xs k p) = true) : ∃ ts, t = .tp ts ∧ chkTs T N ts sc fnb xs = true := by
  cases t with
  | nm i => have h : false = true := by unfold chkT at h; exact h
            cases h
  | tp ts =>
    have h : chkTs T N ts sc fnb xs = true := by unfold chkT at h; exact h
    exact ⟨ts, rfl, h⟩
  | sb k i => have h : false = true := by unfold chkT at h; exact h
              cases h
theorem snd_par2d {i j : Nat} (ki : W.keep i = none) (kj : W.keep j = none) {x y : Str} {px py pt p1 p2 pos : Pos} {kt k2 pt2} (g : Good T W Φ N X) (hi : X.N[i]? = some x) (hj : X.N[j]? = some y) (hxy : x ≠ y)
    (hx : X.env.scope.names.lookup x = some .local) (hy : X.env.scope.names.lookup y = some .local)
    (hw : swappedStores [.Tuple [.Name x px, .Name y py] kt pt] (.Tuple [.Dict [] [] p1, .Dict [] [] p2] k2 pt2) X.env = pure (some [x, y])) :
    PS X (.Assign [.Tuple [.Name x px, .Name y py] kt pt] (.Tuple [.Dict [] [] p1, .Dict [] [] p2] k2 pt2) pos) (tW W fun ρ E => Wg.wS Φ (.par2d i j) ρ E) := by
  have hij : i ≠ j := fun z => by subst z; rw [hi] at hj; exact hxy (Option.some.inj hj)
  refine PS.imp (ps_par g.calm (g.hN ▸ g.nd) hi hj hij hx hy (pa_cons pe_dnewK (pa_cons pe_dnewK pa_nil)) hw) fun D σ H ⟨Z, S, ρ, E, r, hq, f⟩ p hp p' hp' => ?_
  refine ⟨_, _, rfl, ?_⟩
  have o1 := r.own_new hp
  have n1 := r.noOwn_new hp
  have r1 := (r.upd o1 n1 (.dK [])).set (s := .od []) (v := .ref p) ki ⟨p, [], rfl, upd_same, o1, n1, .nil⟩
  have o2 := r1.own_new hp'
  have n2 := r1.noOwn_new hp'
  have r2 := (r1.upd o2 n2 (.dK [])).set (s := .od []) (v := .ref p') kj ⟨p', [], rfl, upd_same, o2, n2, .nil⟩
  exact f.nx _ _ S _ ((Ext.upd o1 _).trans (Ext.upd o2 _)) r2 hq
theorem snd_asgAll {X : Cx} {t : Tg} {e : Ex} {sc : Scope} {tg x : Expr} {p : Pos} (hk : X.env.scope.kind = .function) (g : Good T W Φ N X) (hs : X.env.scope = sc) (hf : X.fn = fun _ => true)
    (h1 : chkT T N t sc (fun _ => true) tg = true) (h2 : chkX T N e sc x = true) (h3 : (swp sc [tg] x).isSome = true) (h4 : notComp x = true) :
    PS X (.Assign [tg] x p) (tW W fun ρ E => Wg.wX Φ e ρ fun s ρ1 => Wg.wT Φ t s ρ1 E.nx) := by
  obtain ⟨qt, pt⟩ := snd_T t sc _ tg X h1 g hs hf
  obtain ⟨o, ho⟩ := Option.isSome_iff_exists.mp h3
  by_cases hb : swB X.env.scope x tg = true
  · have hsw := swapsWith_eq (l := p.line) hk h4 (tg := tg)
    rw [hb] at hsw
    unfold swB at hb
    split at hb
    · rename_i elt gs s' cp y py
      simp only [Bool.and_eq_true] at hb
      obtain ⟨⟨hb1, _⟩, _⟩ := hb
      rcases lc_parts (Φ := Φ) h2 with ⟨own, a, t', it, c, tg', iter, ifs, rfl, rfl, h2⟩ | no
      · obtain ⟨i, rfl, hi, ki⟩ := chkTs_nm h1
        refine snd_lcS h2 g (g.kp i ki) hs (g.hN ▸ hi) ?_ hsw
        split at hb1
        · assumption
        · cases hb1
      · exact PS.no fun ρ E h => no ρ _ h
    · rename_i kx vx gs s' cp y py
      simp only [Bool.and_eq_true] at hb
      obtain ⟨⟨hb1, _⟩, _⟩ := hb
      rcases dc_parts (Φ := Φ) h2 with ⟨own, ka, va, t', it, c, tg', iter, ifs, rfl, rfl, h2⟩ | no
      · obtain ⟨i, rfl, hi, ki⟩ := chkTs_nm h1
        refine snd_dcS h2 g (g.kp i ki) hs (g.hN ▸ hi) ?_ hsw
        split at hb1
        · assumption
        · cases hb1
      · exact PS.no fun ρ E h => no ρ _ h
    · cases hb
  · have hb : swB X.env.scope x tg = false := by simpa using hb
    cases o with
    | none => exact snd_asg hk (snd_X e sc x X h2 g hs).1 qt hb h4 (hs ▸ ho) pt
    | some names =>
      cases tg with
      | Tuple ts k p1 =>
        cases x with
        | Tuple vs k2 p2 =>
          obtain ⟨hlen, hv, _⟩ := swp_names ho
          obtain ⟨tts, rfl, h1⟩ := chkT_tuple h1
          obtain ⟨es, rfl, h5⟩ := chkX_tup h2
          have qs := snd_Xs es sc vs X h5 g hs
          rcases ts with _ | ⟨t1, _ | ⟨t2, _ | ⟨t3, _ | ⟨t4, r⟩⟩⟩⟩
          · simp at hlen
          · simp at hlen
          · obtain ⟨x, px, y, py, a, b, rfl, rfl, rfl, rfl, lx, ly, hxy⟩ := swp_two ho
            obtain ⟨u1, ts1, rfl, c1, k1⟩ := chkTs_cons h1
            obtain ⟨u2, ts2, rfl, c2, k2⟩ := chkTs_cons k1
            cases chkTs_nil k2
            obtain ⟨i, rfl, hi, ki⟩ := chkTs_nm c1
            obtain ⟨j, rfl, hj, kj⟩ := chkTs_nm c2
            obtain ⟨e1, es1, rfl, h6⟩ := chkXs_cons h5
            obtain ⟨e2, es2, rfl, h7⟩ := chkXs_cons h6
            cases chkXs_nil h7
            exact snd_par2 (g.kp i ki) (g.kp j kj) g hk (g.hN ▸ hi) (g.hN ▸ hj) hxy (hs ▸ lx) (hs ▸ ly) qs.2.1 (hs ▸ ho)
          · obtain ⟨x, px, y, py, z, pz, a, b, c, rfl, rfl, rfl, rfl, rfl, lx, ly, lz, hxy, hxz, hyz⟩ := swp_three ho
            obtain ⟨u1, ts1, rfl, c1, k1⟩ := chkTs_cons h1
            obtain ⟨u2, ts2, rfl, c2, k2⟩ := chkTs_cons k1
            obtain ⟨u3, ts3, rfl, c3, k3⟩ := chkTs_cons k2
            cases chkTs_nil k3
            obtain ⟨i, rfl, hi, ki⟩ := chkTs_nm c1
            obtain ⟨j, rfl, hj, kj⟩ := chkTs_nm c2
            obtain ⟨l, rfl, hl, kl⟩ := chkTs_nm c3
            obtain ⟨e1, es1, rfl, h6⟩ := chkXs_cons h5
            obtain ⟨e2, es2, rfl, h7⟩ := chkXs_cons h6
            obtain ⟨e3, es3, rfl, h8⟩ := chkXs_cons h7
            cases chkXs_nil h8
            exact snd_par3 (g.kp i ki) (g.kp j kj) (g.kp l kl) g hk (g.hN ▸ hi) (g.hN ▸ hj) (g.hN ▸ hl) hxy hxz hyz (hs ▸ lx) (hs ▸ ly) (hs ▸ lz) qs.2.1 (hs ▸ ho)
          · simp at hlen
        | _ => cases ho
      | List ts p1 => cases x <;> cases ho
      | _ => cases ho
mutual
theorem snd_S : ∀ (s : Wg.St) (sc : Scope) (st : Stmt) (X : Cx), chkS T N sc s st = true → Good T W Φ N X → X.env.scope = sc → X.env.scope.kind = .function → X.fn = (fun _ => true) → PS X st (tW W fun ρ E => Wg.wS Φ s ρ E)
  | .asg t e, sc, st, X, h, g, hs, hk, hf => by
    unfold chkS at h
    split at h
    · simp only [Bool.and_eq_true] at h
      obtain ⟨⟨⟨h1, h2⟩, h3⟩, h4⟩ := h
      refine PS.imp (snd_asgAll hk g hs hf h1 h2 h3 ?_) fun D σ H q => q
      rename_i tg x p
      cases x <;> first | rfl | cases h4
    · cases h
  | .par2d i j, sc, st, X, h, g, hs, hk, hf => by
    unfold chkS at h
    split at h
    · simp only [Bool.and_eq_true, decide_eq_true_eq] at h
      obtain ⟨⟨⟨⟨⟨⟨⟨h1, h2⟩, ki⟩, kj⟩, hxy⟩, lx⟩, ly⟩, hw⟩ := h
      exact snd_par2d (g.kp i (by simpa using ki)) (g.kp j (by simpa using kj)) g (g.hN ▸ h1) (g.hN ▸ h2) hxy (hs ▸ lx) (hs ▸ ly) (swp_eq hk (hs ▸ hw))
    · cases h
  | .aug i o e, sc, st, X, h, g, hs, hk, hf => by
    unfold chkS at h
    split at h
    · simp only [Bool.and_eq_true, decide_eq_true_eq] at h
      obtain ⟨⟨⟨⟨h1, hk'⟩, h2⟩, rfl⟩, h4⟩ := h
      obtain ⟨l1, l2⟩ := locB_ok h2
      exact snd_aug (g.kp i (by simpa using hk')) g (g.hN ▸ h1) (hs ▸ l1) (.inl (by rw [hf])) (snd_X e sc _ X h4 g hs).1
    · cases h
  | .augS k i o e, sc, st, X, h, g, hs, hk, hf => by
    unfold chkS at h
    split at h
    · rename_i x np j tp op y p
      simp only [Bool.and_eq_true, decide_eq_true_eq] at h
      obtain ⟨⟨⟨h1, h2⟩, rfl⟩, h4⟩ := h
      exact snd_augS g.hu g.hK (snd_name (p := np) g (hs ▸ h1)) (snd_X i sc _ X h2 g hs).1 (snd_X e sc _ X h4 g hs).1 (chkX_pl h2)
    · cases h
  | .exp e, sc, st, X, h, g, hs, hk, hf => by
    unfold chkS at h
    split at h
    · rename_i x p
      simp only [Bool.and_eq_true] at h
      refine PS.imp (snd_exp (snd_X e sc _ X h.2 g hs).1 ?_) fun D σ H q => q
      obtain ⟨h1, _⟩ := h
      cases x <;> first | rfl | cases h1
    · cases h
  | .ret e, sc, st, X, h, g, hs, hk, hf => by
    unfold chkS at h
    split at h
    · exact PS.imp (snd_ret (snd_X e sc _ X h g hs).1) fun D σ H q => q
    · cases h
  | .iff c a b, sc, st, X, h, g, hs, hk, hf => by
    unfold chkS at h
    split at h
    · simp only [Bool.and_eq_true] at h
      exact PS.imp (snd_if (snd_X c sc _ X h.1.1 g hs).2 (snd_Ss a sc _ X h.1.2 g hs hk hf) (snd_Ss b sc _ X h.2 g hs hk hf)) fun D σ H q => q
    · cases h
  | .whl c b, sc, st, X, h, g, hs, hk, hf => by
    unfold chkS at h
    split at h
    · simp only [Bool.and_eq_true] at h
      exact PS.imp (snd_whl g (snd_X c sc _ X h.1 g hs).2 (snd_Ss b sc _ X h.2 g hs hk hf)) fun D σ H q => q
    · cases h
  | .for t it b, sc, st, X, h, g, hs, hk, hf => by
    unfold chkS at h
    split at h
    · rename_i tg iter body p
      simp only [Bool.and_eq_true] at h
      obtain ⟨⟨⟨h1, h2⟩, h3⟩, h4⟩ := h
      obtain ⟨qi, pi⟩ := snd_I it sc iter X tg h3 g hs (fun z => by
        obtain ⟨ts, rfl⟩ := zipB_tp h2 z
        unfold chkT at h1
        split at h1
        · exact ⟨_, _, _, rfl⟩
        · cases h1)
      exact PS.imp (snd_for g qi (snd_T t sc _ tg X h1 g hs hf).1 (snd_Ss b sc _ X h4 g hs hk hf) pi h2) fun D σ H q => q
    · cases h
  | .brk, sc, st, X, h, g, hs, hk, hf => by
    unfold chkS at h
    split at h
    · exact PS.imp snd_brk fun D σ H q => q
    · cases h
  | .cnt, sc, st, X, h, g, hs, hk, hf => by
    unfold chkS at h
    split at h
    · exact PS.imp snd_cnt fun D σ H q => q
    · cases h
  | .rse, sc, st, X, h, g, hs, hk, hf => PS.imp snd_rse fun D σ H q => q
theorem snd_Ss : ∀ (ss : Sts) (sc : Scope) (st : List Stmt) (X : Cx), chkSs T N sc ss st = true → Good T W Φ N X → X.env.scope = sc → X.env.scope.kind = .function → X.fn = (fun _ => true) → PSs X st (tW W fun ρ E => Wg.wSs Φ ss ρ E)
  | .n, sc, st, X, h, g, hs, hk, hf => by
    unfold chkSs at h
    split at h
    · exact PSs.imp snd_ss0 fun D σ H q => q
    · cases h
  | .c s ss, sc, st, X, h, g, hs, hk, hf => by
    unfold chkSs at h
    split at h
    · simp only [Bool.and_eq_true] at h
      exact PSs.imp (snd_ss1 (snd_S s sc _ X h.1 g hs hk hf) (snd_Ss ss sc _ X h.2 g hs hk hf)) fun D σ H q => q
    · cases h
end
end
/-! ### the functions of a program -/
/-- a def of the text is the Wg function -/
structure DefW (T : Tab) (K : PySem.W.Frag) (mg : Str → Option Value) (x : Str) (fn : Wg.Fn) : Prop where
  ex : ∃ (f : Addr) (qual : Str) (params : Arguments) (body : List Stmt) (scope : Scope) (dV kV doc pm cdv ct oc : Value) (an od : Option Addr) (osl : Array (Option Value)) (N ps : List Str),
    mg x = some (.ref f) ∧ PySem.W.keepIn K (.ref f) = true ∧ K.lookup f = some ⟨oc, od, .func (PySem.W.fnOf x qual params body scope dV kV doc pm an cdv ct), osl⟩ ∧ PySem.W.codeIn K cdv qual = true ∧ FnScope N ps scope ∧
    Binds K (PySem.W.fnOf x qual params body scope dV kV doc pm an cdv ct) ps [] ∧ ps.length = fn.pars ∧ N.length = fn.slots ∧ chkSs T N scope fn.body body = true
/-- a function of the table as it may be called -/
structure CalW (P : Program) (w : World) (K : PySem.W.Frag) (mg : Str → Option Value) (base : Heap) (k : Nat) (x : Str) (sp : Sp) : Prop where
  ex : ∃ (f : Addr) (fd : FuncData) (ps : List Str), mg x = some (.ref f) ∧ PySem.W.keepIn K (.ref f) = true ∧ Binds K fd ps [] ∧ FnOk P w K mg base CX0 k f fd ps sp
theorem getElem?_map_append {ds : List D} {n i : Nat} {s : Slot} (e : (ds.map Slot.sh ++ List.replicate n Slot.un)[i]? = some s) : (∃ d, ds[i]? = some d ∧ s = .sh d) ∨ (s = .un) := by
  by_cases h : i < ds.length
  · rw [List.getElem?_append_left (by simpa using h)] at e
    rw [List.getElem?_map] at e
    cases q : ds[i]? with
    | none => rw [q] at e; cases e
    | some d => rw [q] at e; cases e; exact .inl ⟨d, rfl, rfl⟩
  · rw [List.getElem?_append_right (by simpa using h)] at e
    right
    have := List.mem_of_getElem? e
    exact List.eq_of_mem_replicate this
/-- the state at the entry -/
theorem entry {W : Wd} {S : AS} {H : Hp} {vs : List V} {ds : List D} {N : List Str} {k : Nat} (h0 : W.keep = fun _ => none) (h1 : ∀ a, S a → H a ≠ none ∧ W.P ≠ some a) (h2 : ∀ p, W.P = some p → S W.ps ∧ Pool0 W H p) (h3 : Reps W S H vs ds) (hk : N.length = ds.length + k) :
    R W (fun a => H a ≠ none ∧ ¬ S a ∧ W.P ≠ some a) S (ds.map Slot.sh ++ List.replicate k .un) (L2.start N vs) H := by
  have hl := h3.length
  have hv : N.length - vs.length = k := by omega
  have noOwn : ∀ i : Nat, ¬ isOwn (ds.map Slot.sh ++ List.replicate k Slot.un)[i]? := fun i o => by
    cases e : (ds.map Slot.sh ++ List.replicate k Slot.un)[i]? with
    | none => rw [e] at o; exact o
    | some s =>
      rcases getElem?_map_append e with ⟨d, _, rfl⟩ | rfl <;> rw [e] at o <;> exact o
  refine ⟨?_, fun i v e => (by rw [h0] at e; cases e), fun i d e => ?_, fun i l e => (noOwn i (by rw [e]; trivial)).elim, fun i l e => (noOwn i (by rw [e]; trivial)).elim, fun i j a o => (noOwn i o).elim, fun a h => ?_, fun a h z => z.2.1 h, fun p hp => ?_⟩
  · unfold L2.start
    rw [hv]
    simp [hl]
  · rcases getElem?_map_append e with ⟨d', e', q⟩ | q
    · cases q
      obtain ⟨v, g1, g2⟩ := h3.get e'
      refine ⟨v, ?_, g2⟩
      unfold L2.start
      rw [List.getElem?_append_left (by rw [List.length_map]; exact (List.getElem?_eq_some_iff.mp g1).1), List.getElem?_map, g1]
      rfl
    · cases q
  · rcases h with h | h
    · exact (h1 a h).1
    · exact h.1
  · exact ⟨fun h => (h1 p h).2 hp, fun z => z.2.2 hp, (h2 p hp).1, (h2 p hp).2⟩
section
variable {P : Program} {w : World} {K : PySem.W.Frag} {mg : Str → Option Value} {base : Heap} {T : Tab} {W : Wd} {Pg : Wg.Prog}
/-- what is known of the module -/
structure Known (K : PySem.W.Frag) (mg : Str → Option Value) (T : Tab) (W : Wd) (Pg : Wg.Prog) : Prop where
  hK : W.K = K
  kp0 : W.keep = fun _ => none
  blt : ∀ b x, bltName b = some x → mg x = none
  rng : mg "range" = none
  zp : mg "zip" = none
  st : FreeB mg
  fv : T.fv = true → ∀ f a, W.fn f = some a → f ≠ 1 → ∃ x, T.fn f = some x ∧ mg x = some (.ref a)
  con : ∀ g x, T.con g = some x → ∃ v u d, mg x = some u ∧ RelV v u ∧ Pg.G g = some d ∧ ∀ S H, Rep W S H v d
  defs : ∀ f x, T.fn f = some x → f ≠ 0 → ∃ fn, Pg.fns f = some fn ∧ DefW T K mg x fn
/-- a def does what Wg says -/
theorem fn_ok {k : Nat} {x : Str} {fn : Wg.Fn} {F : Nat → List D → (D → Prop) → Prop} (kn : Known K mg T W Pg) (d : DefW T K mg x fn) (ih : ∀ f x, T.fn f = some x → CalW P w K mg base k x (SpF W F f)) {F' : Nat → List D → (D → Prop) → Prop} {f : Nat}
    (hF : ∀ ds Q, F' f ds Q → Wg.wF ⟨Pg.G, F⟩ fn ds Q) : CalW P w K mg base (k + 1) x (SpF W F' f) := by
  obtain ⟨a, qual, params, body, scope, dV, kV, doc, pm, cdv, ct, oc, an, od, osl, N, ps, hm, hk, lk, hcd, FS, hb, hpars, hslots, hchk⟩ := d.ex
  have len : ∀ vs H Q E, SpF W F' f vs H Q E → vs.length = ps.length := fun vs H Q E ⟨S, ds, Qd, _, _, h3, h4, _⟩ => by
    rw [h3.length, hpars]
    exact (hF ds Qd h4).1
  refine ⟨a, _, ps, hm, hk, hb, fn_of lk hcd FS len fun A outer s H vs Q E hr hsp => ?_⟩
  refine ⟨tW W fun ρ E => Wg.wSs ⟨Pg.G, F⟩ fn.body ρ E, ?_, ?_⟩
  · refine PSs.nox (snd_Ss (T := T) (N := N) fn.body scope body _ hchk ⟨rfl, kn.hK, rfl, FS.nd, rfl, ?_, kn.blt, kn.rng, kn.zp, kn.st, fun f x hf => ?_, fun i _ => (by rw [kn.kp0]), kn.fv, kn.con⟩ rfl FS.kind rfl)
    · have := hr.un
      show (A.deeper (envOfC qual scope s.heap.objs.size a cdv)).units + 65 < cLine
      omega
    · obtain ⟨a', fd', ps', g1, g2, g3, g4⟩ := (ih f x hf).ex
      exact ⟨a', fd', ps', k, g1, g2, g3, hr, g4⟩
  · obtain ⟨S, ds, Qd, h1, h2, h3, h4, h5⟩ := hsp
    obtain ⟨w1, w2, w3⟩ := hF ds Qd h4
    have r0 := entry (N := N) (k := fn.slots - fn.pars) kn.kp0 h1 h2 h3 (by omega)
    have fin : ∀ v H' S' ρ' σ' d, Ext (fun a => H a ≠ none ∧ ¬ S a ∧ W.P ≠ some a) S H S' H' → R W (fun a => H a ≠ none ∧ ¬ S a ∧ W.P ≠ some a) S' ρ' σ' H' → Rep W S' H' v d → Qd d → Q v H' := fun v H' S' ρ' σ' d e r rv q => by
      refine h5 v H' S' d (fun a ha hp => ?_) (fun p hp => (r.pool p hp).2.2.2) (fun a ha => ⟨?_, r.trk a (.inl ha)⟩) rv q
      · by_cases hs : S a
        · exact (e.s a hs).2
        · exact e.z a ⟨ha, hs, hp⟩
      · by_cases hs : S a
        · exact .inl hs
        · right
          cases ho : H a with
          | none => rfl
          | some o => exact (r.dz a ha ⟨by rw [ho]; simp, hs, fun hp => (r.pool a hp).1 ha⟩).elim
    exact ⟨_, S, _, _, r0, w3, ⟨fun σ' H' S' ρ' e r q => fin .non H' S' ρ' σ' .non e r .non q, fin, fun _ _ _ _ _ _ q => q.elim, fun _ _ _ _ _ _ q => q.elim⟩⟩
/-- nothing is asked -/
theorem fn_false {k : Nat} {x : Str} {fn : Wg.Fn} {sp : Sp} (d : DefW T K mg x fn) (h : ∀ vs H Q E, ¬ sp vs H Q E) : CalW P w K mg base k x sp := by
  obtain ⟨a, qual, params, body, scope, dV, kV, doc, pm, cdv, ct, oc, an, od, osl, N, ps, hm, hk, lk, hcd, FS, hb, hpars, hslots, hchk⟩ := d.ex
  exact ⟨a, _, ps, hm, hk, hb, ⟨fun vs H Q E q => (h vs H Q E q).elim, fun A outer s H args us vs Q E _ _ _ _ q => (h vs H Q E q).elim⟩⟩
theorem CalW.mono {j k : Nat} {x : Str} {sp : Sp} (c : CalW P w K mg base j x sp) (h : j ≤ k) : CalW P w K mg base k x sp := by
  obtain ⟨f, fd, ps, h1, h2, h3, h4⟩ := c.ex
  exact ⟨f, fd, ps, h1, h2, h3, h4.mono h⟩
theorem CalW.imp {k : Nat} {x : Str} {sp sp' : Sp} (c : CalW P w K mg base k x sp) (h : ∀ vs H Q E, sp' vs H Q E → sp vs H Q E) : CalW P w K mg base k x sp' := by
  obtain ⟨f, fd, ps, h1, h2, h3, h4⟩ := c.ex
  exact ⟨f, fd, ps, h1, h2, h3, h4.imp h⟩
/-- all functions of the table, to every depth -/
theorem all_ok (kn : Known K mg T W Pg) {k0 : Nat} (draw : ∀ x, T.fn 0 = some x → CalW P w K mg base k0 x (SpF W (Wg.run Pg 0) 0)) : ∀ n f x, T.fn f = some x → CalW P w K mg base (n + k0) x (SpF W (Wg.run Pg n) f)
  | 0, f, x, hf => by
    rw [Nat.zero_add]
    by_cases h0 : f = 0
    · subst h0; exact draw x hf
    · obtain ⟨fn, _, d⟩ := kn.defs f x hf h0
      refine fn_false d fun vs H Q E ⟨S, ds, Qd, _, _, _, h4, _⟩ => ?_
      unfold Wg.run at h4
      split at h4
      · exact h0 rfl
      · exact h4
  | n + 1, f, x, hf => by
    by_cases h0 : f = 0
    · subst h0
      refine ((draw x hf).mono (Nat.le_add_left _ _)).imp fun vs H Q E ⟨S, ds, Qd, h1, h2, h3, h4, h5⟩ => ⟨S, ds, Qd, h1, h2, h3, ?_, h5⟩
      unfold Wg.run at h4 ⊢
      split at h4
      · exact h4
      · exact h4.elim
      · rename_i q _; exact (q rfl).elim
    · obtain ⟨fn, hfn, d⟩ := kn.defs f x hf h0
      have e : n + 1 + k0 = (n + k0) + 1 := by omega
      rw [e]
      refine fn_ok kn d (fun f x hf => all_ok kn draw n f x hf) fun ds Q h => ?_
      unfold Wg.run at h
      split at h
      · exact (h0 rfl).elim
      · exact h.elim
      · rw [hfn] at h; exact h
end
end WgS
set_option Elab.async false
set_option linter.all false
set_option maxRecDepth 100000
/-! Wg: the draws of a law. Plain Lean. -/
namespace Wg
/-- 0 _law_draw(pool, many); pool 0, many 1, cell 2, mixed 3, value 4 -/
def f_law_draw : Fn := ⟨5, 2,
  (.c (.iff (.and (.cmp .le (.idx (.var 0) (.lit (.int 2))) (.lit (.int 0))) (.cmp .lt (.idx (.var 0) (.lit (.int 1))) (.blt .len (.c (.idx (.var 0) (.lit (.int 0))) .n)))) (.c (.asg (.nm 2) (.idx (.idx (.var 0) (.lit (.int 0))) (.idx (.var 0) (.lit (.int 1)))))
   (.c (.asg (.sb 0 (.lit (.int 1))) (.bin .add (.idx (.var 0) (.lit (.int 1))) (.lit (.int 1))))
   (.c (.asg (.sb 0 (.lit (.int 2))) (.var 2))
   (.c (.iff (.cmp .lt (.var 2) (.lit (.int 1000000000000000000))) (.c (.asg (.sb 0 (.lit (.int 2))) (.call 2 (.c (.var 2) .n)))
    .n) .n)
   .n)))) .n)
  (.c (.asg (.sb 0 (.lit (.int 3))) (.bin .add (.idx (.var 0) (.lit (.int 3))) (.lit (.int 1))))
  (.c (.iff (.cmp .le (.idx (.var 0) (.lit (.int 2))) (.lit (.int 0))) (.c (.asg (.nm 3) (.bin .mod (.blt .int (.c (.bin .add (.bin .add (.bin .mul (.idx (.var 0) (.lit (.int 4))) (.lit (.int 48271))) (.bin .mul (.idx (.var 0) (.lit (.int 3))) (.lit (.int 69621)))) (.lit (.int 1))) .n)) (.lit (.int 2147483647))))
   (.c (.asg (.nm 3) (.bin .mod (.blt .int (.c (.bin .add (.bin .mul (.var 3) (.lit (.int 16807))) (.idx (.var 0) (.lit (.int 3)))) .n)) (.lit (.int 2147483629))))
   (.c (.ret (.bin .mod (.bin .fdiv (.var 3) (.lit (.int 5))) (.var 1)))
   .n))) .n)
  (.c (.asg (.nm 4) (.bin .mod (.blt .int (.c (.idx (.var 0) (.lit (.int 2))) .n)) (.var 1)))
  (.c (.asg (.sb 0 (.lit (.int 2))) (.bin .fdiv (.idx (.var 0) (.lit (.int 2))) (.var 1)))
  (.c (.ret (.var 4))
  .n))))))⟩
/-- 2 _law_spread(cell); cell 0, mixed 1, total 2, k 3 -/
def f_law_spread : Fn := ⟨4, 1,
  (.c (.asg (.nm 1) (.bin .mod (.blt .int (.c (.var 0) .n)) (.lit (.int 2147483647))))
  (.c (.asg (.nm 2) (.lit (.int 1)))
  (.c (.for (.nm 3) (.range (.c (.lit (.int 4)) .n)) (.c (.asg (.nm 1) (.bin .mod (.blt .int (.c (.bin .add (.bin .add (.bin .mul (.var 1) (.lit (.int 48271))) (.lit (.int 12345))) (.var 3)) .n)) (.lit (.int 2147483647))))
   (.c (.asg (.nm 2) (.bin .add (.bin .mul (.var 2) (.lit (.int 2147483647))) (.var 1)))
   .n)))
  (.c (.ret (.var 2))
  .n))))⟩
/-- 1 _law_pool(script); script 0, salt 1, cell 2 -/
def f_law_pool : Fn := ⟨3, 1,
  (.c (.asg (.nm 1) (.lit (.int 7)))
  (.c (.for (.nm 2) (.e (.slc (.var 0) .noPart (.lit (.int 63)))) (.c (.asg (.nm 1) (.bin .mod (.blt .int (.c (.bin .add (.bin .mul (.var 1) (.lit (.int 31))) (.var 2)) .n)) (.lit (.int 1000003))))
   .n))
  (.c (.ret (.lst (.c (.blt .list (.c (.var 0) .n)) (.c (.lit (.int 0)) (.c (.lit (.int 0)) (.c (.lit (.int 0)) (.c (.var 1) .n)))))))
  .n)))⟩
theorem okM {i j : Int} (h : j.natAbs < 2 ^ 64) : okMul i j := .inl (.inr h)
theorem spread_ok (Φ : Ctx) (c : Int) : ∃ t : Int, ∀ Q : D → Prop, Q (.int t) → wF Φ f_law_spread [.int c] Q := by
  have loop : ∀ (l : List Int) (m s : Int) (x : Slot), ∃ t : Int, ∀ E : Ends, (∀ y z, E.nx [.sh (.int c), y, .sh (.int t), z]) → foW (fun x ρ E => wT Φ (.nm 3) (.sh x) ρ fun ρ' => wSs Φ (.c (.asg (.nm 1) (.bin .mod (.blt .int (.c (.bin .add (.bin .add (.bin .mul (.var 1) (.lit (.int 48271))) (.lit (.int 12345))) (.var 3)) .n)) (.lit (.int 2147483647))))
   (.c (.asg (.nm 2) (.bin .add (.bin .mul (.var 2) (.lit (.int 2147483647))) (.var 1)))
   .n)) ρ' E) E (l.map .int) [.sh (.int c), .sh (.int m), .sh (.int s), x] := by
    intro l
    induction l with
    | nil => intro m s x; exact ⟨s, fun E h => h _ x⟩
    | cons n l ih =>
      intro m s x
      obtain ⟨t, ht⟩ := ih ((m * 48271 + 12345 + n).fmod 2147483647) (s * 2147483647 + (m * 48271 + 12345 + n).fmod 2147483647) (.sh (.int n))
      refine ⟨t, fun E h => ?_⟩
      ((repeat ((conv => whnf); refine And.intro (by first | exact trivial | exact rfl | omega | assumption | decide | exact pls_nD _ _ | exact keysOk_kv _ _ _) ?_)); (conv => whnf))
      refine And.intro (okM (by decide)) ?_
      ((repeat ((conv => whnf); refine And.intro (by first | exact trivial | exact rfl | omega | assumption | decide | exact pls_nD _ _ | exact keysOk_kv _ _ _) ?_)); (conv => whnf))
      refine And.intro (okM (by decide)) ?_
      ((repeat ((conv => whnf); refine And.intro (by first | exact trivial | exact rfl | omega | assumption | decide | exact pls_nD _ _ | exact keysOk_kv _ _ _) ?_)); (conv => whnf))
      exact ht E h
  obtain ⟨t, ht⟩ := loop [0, 1, 2, 3] (c.fmod 2147483647) 1 .un
  refine ⟨t, fun Q h => ⟨rfl, by decide, ?_⟩⟩
  iterate 4 ((conv => whnf); refine And.intro (by first | exact trivial | exact rfl | omega | assumption | decide | exact pls_nD _ _ | exact keysOk_kv _ _ _) ?_)
  refine ht _ ?_
  intro y z
  ((repeat ((conv => whnf); refine And.intro (by first | exact trivial | exact rfl | omega | assumption | decide | exact pls_nD _ _ | exact keysOk_kv _ _ _) ?_)); (conv => whnf))
  exact h
theorem pool_ok (Φ : Ctx) (ns : List Int) : ∃ t : Int, ∀ Q : D → Prop, Q (.lst [.lst (ns.map .int), .int 0, .int 0, .int 0, .int t]) → wF Φ f_law_pool [.scr 0 ns] Q := by
  have loop : ∀ (l : List Int) (s : Int) (x : Slot), ∃ t : Int, ∀ E : Ends, (∀ y, E.nx [.sh (.scr 0 ns), .sh (.int t), y]) → foW (fun x ρ E => wT Φ (.nm 2) (.sh x) ρ fun ρ' => wSs Φ (.c (.asg (.nm 1) (.bin .mod (.blt .int (.c (.bin .add (.bin .mul (.var 1) (.lit (.int 31))) (.var 2)) .n)) (.lit (.int 1000003)))) .n) ρ' E) E (l.map .int) [.sh (.scr 0 ns), .sh (.int s), x] := by
    intro l
    induction l with
    | nil => intro s x; exact ⟨s, fun E h => h x⟩
    | cons n l ih =>
      intro s x
      obtain ⟨t, ht⟩ := ih ((s * 31 + n).fmod 1000003) (.sh (.int n))
      refine ⟨t, fun E h => ?_⟩
      ((repeat ((conv => whnf); refine And.intro (by first | exact trivial | exact rfl | omega | assumption | decide | exact pls_nD _ _ | exact keysOk_kv _ _ _) ?_)); (conv => whnf))
      refine And.intro (okM (by decide)) ?_
      ((repeat ((conv => whnf); refine And.intro (by first | exact trivial | exact rfl | omega | assumption | decide | exact pls_nD _ _ | exact keysOk_kv _ _ _) ?_)); (conv => whnf))
      exact ht E h
  obtain ⟨t, ht⟩ := loop (ns.take 63) 7 .un
  refine ⟨t, fun Q h => ⟨rfl, by decide, ?_⟩⟩
  ((repeat ((conv => whnf); refine And.intro (by first | exact trivial | exact rfl | omega | assumption | decide | exact pls_nD _ _ | exact keysOk_kv _ _ _) ?_)); (conv => whnf))
  have e : (List.drop 0 (ns.map D.int)).take ((if (63 : Int) < 0 then (max (63 + (ns.length : Int)) 0).toNat else (min 63 (ns.length : Int)).toNat) - 0) = (ns.take 63).map D.int := by
    rw [if_neg (by decide), List.drop_zero, Nat.sub_zero, List.map_take]
    by_cases q : ns.length ≤ 63
    · rw [List.take_of_length_le (l := ns.map D.int) (i := 63) (by simpa using q), List.take_of_length_le]
      rw [List.length_map]; omega
    · congr 1; omega
  rw [e]
  exact ht _ fun y => by ((repeat ((conv => whnf); refine And.intro (by first | exact trivial | exact rfl | omega | assumption | decide | exact pls_nD _ _ | exact keysOk_kv _ _ _) ?_)); (conv => whnf)); exact h
/-- a pool's list, and a draw from it -/
theorem draw_ok (Φ : Ctx) (hF : ∀ (c : Int) (Q : D → Prop), (∀ t : Int, Q (.int t)) → Φ.F 2 [.int c] Q) (cs : List Int) (i x c z m : Int) (hi : 0 ≤ i) (hm : 0 < m) (hm2 : m < 2 ^ 31) (E : Ends)
    (hE : ∀ (v i x c z : Int) (r : List Slot), 0 ≤ v → v < m → 0 ≤ i → E.rt (.int v) (.ol [.scr 1 cs, .int i, .int x, .int c, .int z] :: r)) :
    wSs Φ f_law_draw.body [.ol [.scr 1 cs, .int i, .int x, .int c, .int z], .sh (.int m), .un, .un, .un] E := by
  have m0 : m ≠ 0 := by omega
  have md : ∀ a : Int, 0 ≤ a.fmod m ∧ a.fmod m < m := fun a => ⟨Int.fmod_nonneg_of_pos a hm, Int.fmod_lt_of_pos a hm⟩
  have tail : ∀ (i x c z : Int) (s1 s2 s3 : Slot), 0 ≤ i → wSs Φ (.c (.asg (.sb 0 (.lit (.int 3))) (.bin .add (.idx (.var 0) (.lit (.int 3))) (.lit (.int 1))))
  (.c (.iff (.cmp .le (.idx (.var 0) (.lit (.int 2))) (.lit (.int 0))) (.c (.asg (.nm 3) (.bin .mod (.blt .int (.c (.bin .add (.bin .add (.bin .mul (.idx (.var 0) (.lit (.int 4))) (.lit (.int 48271))) (.bin .mul (.idx (.var 0) (.lit (.int 3))) (.lit (.int 69621)))) (.lit (.int 1))) .n)) (.lit (.int 2147483647))))
   (.c (.asg (.nm 3) (.bin .mod (.blt .int (.c (.bin .add (.bin .mul (.var 3) (.lit (.int 16807))) (.idx (.var 0) (.lit (.int 3)))) .n)) (.lit (.int 2147483629))))
   (.c (.ret (.bin .mod (.bin .fdiv (.var 3) (.lit (.int 5))) (.var 1)))
   .n))) .n)
  (.c (.asg (.nm 4) (.bin .mod (.blt .int (.c (.idx (.var 0) (.lit (.int 2))) .n)) (.var 1)))
  (.c (.asg (.sb 0 (.lit (.int 2))) (.bin .fdiv (.idx (.var 0) (.lit (.int 2))) (.var 1)))
  (.c (.ret (.var 4))
  .n))))) [.ol [.scr 1 cs, .int i, .int x, .int c, .int z], .sh (.int m), s1, s2, s3] E := by
    intro i x c z s1 s2 s3 hi
    ((repeat ((conv => whnf); refine And.intro (by first | exact trivial | exact rfl | omega | assumption | decide | exact pls_nD _ _ | exact keysOk_kv _ _ _) ?_)); (conv => whnf))
    refine bif_by (fun h => ?_) (fun h => ?_)
    · ((repeat ((conv => whnf); refine And.intro (by first | exact trivial | exact rfl | omega | assumption | decide | exact pls_nD _ _ | exact keysOk_kv _ _ _) ?_)); (conv => whnf))
      refine And.intro (okM (by decide)) ?_
      ((repeat ((conv => whnf); refine And.intro (by first | exact trivial | exact rfl | omega | assumption | decide | exact pls_nD _ _ | exact keysOk_kv _ _ _) ?_)); (conv => whnf))
      refine And.intro (okM (by decide)) ?_
      ((repeat ((conv => whnf); refine And.intro (by first | exact trivial | exact rfl | omega | assumption | decide | exact pls_nD _ _ | exact keysOk_kv _ _ _) ?_)); (conv => whnf))
      refine And.intro (okM (by decide)) ?_
      ((repeat ((conv => whnf); refine And.intro (by first | exact trivial | exact rfl | omega | assumption | decide | exact pls_nD _ _ | exact keysOk_kv _ _ _) ?_)); (conv => whnf))
      refine And.intro ⟨by decide, .inl (by decide)⟩ ?_
      ((repeat ((conv => whnf); refine And.intro (by first | exact trivial | exact rfl | omega | assumption | decide | exact pls_nD _ _ | exact keysOk_kv _ _ _) ?_)); (conv => whnf))
      exact hE _ i x (c + 1) z _ (md _).1 (md _).2 hi
    · ((repeat ((conv => whnf); refine And.intro (by first | exact trivial | exact rfl | omega | assumption | decide | exact pls_nD _ _ | exact keysOk_kv _ _ _) ?_)); (conv => whnf))
      refine And.intro ⟨m0, .inl (by omega)⟩ ?_
      ((repeat ((conv => whnf); refine And.intro (by first | exact trivial | exact rfl | omega | assumption | decide | exact pls_nD _ _ | exact keysOk_kv _ _ _) ?_)); (conv => whnf))
      exact hE _ i _ (c + 1) z _ (md _).1 (md _).2 hi
  ((repeat ((conv => whnf); refine And.intro (by first | exact trivial | exact rfl | omega | assumption | decide | exact pls_nD _ _ | exact keysOk_kv _ _ _) ?_)); (conv => whnf))
  refine bif_by (fun h1 => ?_) (fun h1 => ?_)
  · ((repeat ((conv => whnf); refine And.intro (by first | exact trivial | exact rfl | omega | assumption | decide | exact pls_nD _ _ | exact keysOk_kv _ _ _) ?_)); (conv => whnf))
    refine bif_by (fun h2 => ?_) (fun h2 => ?_)
    · have h3 : i < cs.length := by simpa [D.lt, Slot.val] using h2
      have hlt : i.toNat < cs.length := by omega
      ((repeat ((conv => whnf); refine And.intro (by first | exact trivial | exact rfl | omega | assumption | decide | exact pls_nD _ _ | exact keysOk_kv _ _ _) ?_)); (conv => whnf))
      refine idxL_int hi (d := .int cs[i.toNat]) (by simp [hlt]) ?_
      ((repeat ((conv => whnf); refine And.intro (by first | exact trivial | exact rfl | omega | assumption | decide | exact pls_nD _ _ | exact keysOk_kv _ _ _) ?_)); (conv => whnf))
      refine bif_by (fun h4 => ?_) (fun h4 => ?_)
      · ((repeat ((conv => whnf); refine And.intro (by first | exact trivial | exact rfl | omega | assumption | decide | exact pls_nD _ _ | exact keysOk_kv _ _ _) ?_)); (conv => whnf))
        refine hF _ _ fun t => ?_
        ((conv => whnf); refine And.intro (by first | exact trivial | exact rfl | omega | assumption | decide | exact pls_nD _ _ | exact keysOk_kv _ _ _) ?_)
        exact tail (i + 1) t c z _ _ _ (by omega)
      · exact tail (i + 1) _ c z _ _ _ (by omega)
    · exact tail i x c z _ _ _ hi
  · exact tail i x c z _ _ _ hi
end Wg
set_option Elab.async false
set_option linter.all false
set_option maxRecDepth 100000
set_option maxHeartbeats 4000000
/-! WgS: the draws; a law over the pool. -/
namespace WgS
open PySem PySem.Spec PyProof.Rows L2
open Wg (D Slot Opd Ex Exs Tg Tgs Kvs Sts BOp COp Blt Mth LB)
/-- tables for the draws -/
def T0 : Tab := ⟨fun _ => none, fun _ => none, fun _ => false, false⟩
def T1 : Tab := ⟨fun f => if f = 2 then some "_law_spread" else none, fun _ => none, fun i => i == 0, false⟩
/-- what the spread does -/
def Fsp : Nat → List D → (D → Prop) → Prop := fun _ ds Q => ∃ c, ds = [.int c] ∧ ∀ t : Int, Q (.int t)
structure Base (K : PySem.W.Frag) (mg : Str → Option Value) : Prop where
  blt : ∀ b x, bltName b = some x → mg x = none
  rng : mg "range" = none
  zp : mg "zip" = none
  st : FreeB mg
section
variable {W W2 : Wd} {S : AS} {H : Hp}
mutual
theorem Rep.conv' (k1 : W.K = W2.K) (k2 : W.P = W2.P) (k3 : W.fn = W2.fn) : ∀ {v : V} {d : D}, Rep W S H v d → Rep W2 S H v d
  | _, _, .non => .non
  | _, _, .bl _ => .bl _
  | _, _, .int _ => .int _
  | _, _, .str _ => .str _
  | _, _, .tup hs ha hd hr => .tup hs ha hd (Reps.conv' k1 k2 k3 hr)
  | _, _, .ktup hk hr => .ktup (k1 ▸ hk) (Reps.conv' k1 k2 k3 hr)
  | _, _, .lst hs ha hr => .lst hs ha (Reps.conv' k1 k2 k3 hr)
  | _, _, .dct hs ha hr => .dct hs ha (RepKs.conv' k1 k2 k3 hr)
  | _, _, .fn e => .fn (k3 ▸ e)
  | _, _, .pool e => .pool (k2 ▸ e)
  | _, _, .scr hi hs ha => .scr (k3 ▸ hi) hs ha
  | _, _, .kscr hi hk => .kscr (k3 ▸ hi) (k1 ▸ hk)
theorem Reps.conv' (k1 : W.K = W2.K) (k2 : W.P = W2.P) (k3 : W.fn = W2.fn) : ∀ {vs : List V} {ds : List D}, Reps W S H vs ds → Reps W2 S H vs ds
  | _, _, .nil => .nil
  | _, _, .cons h1 h2 => .cons (Rep.conv' k1 k2 k3 h1) (Reps.conv' k1 k2 k3 h2)
theorem RepKs.conv' (k1 : W.K = W2.K) (k2 : W.P = W2.P) (k3 : W.fn = W2.fn) : ∀ {vs : List (Key × V)} {ds : List (D × D)}, RepKs W S H vs ds → RepKs W2 S H vs ds
  | _, _, .nil => .nil
  | _, _, .cons h1 h2 => .cons (Rep.conv' k1 k2 k3 h1) (RepKs.conv' k1 k2 k3 h2)
end
theorem Rep.conv (k1 : W.K = W2.K) (k2 : W.P = W2.P) (k3 : W.fn = W2.fn) (d : D) (v : V) (h : Rep W S H v d) : Rep W2 S H v d := Rep.conv' k1 k2 k3 h
theorem Reps.conv (k1 : W.K = W2.K) (k2 : W.P = W2.P) (k3 : W.fn = W2.fn) (ds : List D) (vs : List V) (h : Reps W S H vs ds) : Reps W2 S H vs ds := Reps.conv' k1 k2 k3 h
theorem SpF.conv (k1 : W.K = W2.K) (k2 : W.P = W2.P) (k3 : W.fn = W2.fn) (k4 : W.ps = W2.ps) {F : Nat → List D → (D → Prop) → Prop} {f : Nat} {vs : List V} {Q : VK} {E : XK} (h : SpF W F f vs H Q E) : SpF W2 F f vs H Q E := by
  obtain ⟨S, ds, Qd, h1, h2, h3, h4, h5⟩ := h
  have pc : ∀ H p, Pool0 W H p ↔ Pool0 W2 H p := fun H p => by unfold Pool0; rw [k4]
  refine ⟨S, ds, Qd, fun a ha => k2 ▸ h1 a ha, fun p hp => ?_, Reps.conv k1 k2 k3 _ _ h3, h4, fun v H' S' d q1 q2 q3 q4 q5 => h5 v H' S' d (fun a x y => q1 a x (k2 ▸ y)) (fun p hp => (pc H' p).mpr (q2 p (k2 ▸ hp))) q3 (Rep.conv k1.symm k2.symm k3.symm d _ q4) q5⟩
  obtain ⟨g1, g2⟩ := h2 p (k2 ▸ hp)
  exact ⟨k4 ▸ g1, (pc H p).mp g2⟩
end
section
variable {P : Program} {w : World} {K : PySem.W.Frag} {mg : Str → Option Value} {base : Heap} {W : Wd} {Pg : Wg.Prog}
theorem spread_cal (hK : W.K = K) (h0 : W.keep = fun _ => none) (b : Base K mg) (d : DefW T0 K mg "_law_spread" Wg.f_law_spread) : CalW P w K mg base 1 "_law_spread" (SpF W Fsp 2) := by
  have kn : Known K mg T0 W ⟨fun _ => none, fun _ => none⟩ := ⟨hK, h0, b.blt, b.rng, b.zp, b.st, (fun h => nomatch (show false = true from h)), (fun g x h => by simp [T0] at h), fun f x h => by simp [T0] at h⟩
  refine fn_ok (k := 0) (F := fun _ _ _ => False) kn d (fun f x h => by simp [T0] at h) fun ds Q ⟨c, e, h⟩ => ?_
  subst e
  obtain ⟨t, ht⟩ := Wg.spread_ok ⟨fun _ => none, fun _ _ _ => False⟩ c
  exact ht Q (h t)
theorem draw_cal (hK : W.K = K) (h0 : W.keep = fun _ => none) (b : Base K mg) (ds : DefW T0 K mg "_law_spread" Wg.f_law_spread) (d : DefW T1 K mg "_law_draw" Wg.f_law_draw) : CalW P w K mg base 2 "_law_draw" (SpF W (Wg.run Pg 0) 0) := by
  obtain ⟨a, qual, params, body, scope, dV, kV, doc, pm, cdv, ct, oc, an, od, osl, N, ps, hm, hk, lk, hcd, FS, hb, hpars, hslots, hchk⟩ := d.ex
  have form : ∀ ds Qd, Wg.run Pg 0 0 ds Qd → ∃ m : Int, ds = [.pool, .int m] ∧ 0 < m ∧ m < 2 ^ 31 ∧ ∀ v : Int, 0 ≤ v → v < m → Qd (.int v) := fun ds Qd h => by
    unfold Wg.run at h
    split at h
    · exact ⟨_, rfl, h⟩
    · exact h.elim
  have len : ∀ vs H Q E, SpF W (Wg.run Pg 0) 0 vs H Q E → vs.length = ps.length := fun vs H Q E ⟨S, ds, Qd, _, _, h3, h4, _⟩ => by
    obtain ⟨m, rfl, _⟩ := form ds Qd h4
    rw [h3.length, hpars]
    rfl
  refine ⟨a, _, ps, hm, hk, hb, fn_of lk hcd FS len fun A outer s H vs Q E hr hsp => ?_⟩
  obtain ⟨S, ds', Qd, h1, h2, h3, h4, h5⟩ := hsp
  obtain ⟨m, rfl, m0, m1, hQ⟩ := form ds' Qd h4
  cases h3 with
  | cons r1 h3 =>
    cases h3 with
    | cons r2 h3 =>
      cases h3
      cases r2
      cases r1 with
      | pool hp =>
        rename_i p
        obtain ⟨hs, ns, i, x, c, z, e1, e2, hi⟩ := h2 p hp
        have hpq : p ≠ W.ps := fun e => (h1 W.ps hs).2 (by rw [← e]; exact hp)
        let W' : Wd := { K := W.K, P := none, ps := W.ps, fn := fun k => if k = 1 then some W.ps else none, keep := fun i => if i = 0 then some (.ref p) else none }
        let W2 : Wd := { K := W.K, P := none, ps := W.ps, fn := fun k => if k = 1 then some W.ps else none }
        have sc : CalW P w K mg base 1 "_law_spread" (SpF W' Fsp 2) := (spread_cal (P := P) (w := w) (base := base) (W := W2) hK rfl b ds).imp fun vs H Q E q => SpF.conv (W := W') (W2 := W2) rfl rfl rfl rfl q
        have hnl : N.length = 5 := hslots
        have only : ∀ j : Nat, isOwn ([Slot.ol [.scr 1 ns, .int i, .int x, .int c, .int z], .sh (.int m), .un, .un, .un] : List Slot)[j]? → j = 0 := fun j o => by
          rcases j with _ | _ | _ | _ | _ | j
          · rfl
          · exact o.elim
          · exact o.elim
          · exact o.elim
          · exact o.elim
          · simp [isOwn] at o
        have r0 : R W' (fun a => H a ≠ none ∧ a ≠ p ∧ a ≠ W.ps) (fun a => a = W.ps) [.ol [.scr 1 ns, .int i, .int x, .int c, .int z], .sh (.int m), .un, .un, .un] (L2.start N [.ref p, .int m]) H := by
          have es : L2.start N [.ref p, .int m] = [some (.ref p), some (.int m), none, none, none] := by
            unfold L2.start
            rw [hnl]
            rfl
          have hcells : Reps W' (fun a => a = W.ps) H [.ref W.ps, .int i, .int x, .int c, .int z] [.scr 1 ns, .int i, .int x, .int c, .int z] :=
            .cons (.scr (fun _ => rfl) rfl (.inl e2)) (.cons (.int i) (.cons (.int x) (.cons (.int c) (.cons (.int z) .nil))))
          rw [es]
          refine ⟨rfl, fun j v e => ?_, fun j d e => ?_, fun j l e => ?_, fun j l e => ?_, fun j1 j2 a o1 o2 q1 q2 => (only j1 o1).trans (only j2 o2).symm, fun a h => ?_, fun a h z => z.2.2 h, fun p hp => nomatch hp⟩
          · by_cases q : j = 0
            · subst q
              cases e
              rfl
            · have : (if j = 0 then some (V.ref p) else none) = some v := e
              rw [if_neg q] at this
              cases this
          · rcases j with _ | _ | _ | _ | _ | j
            · cases e
            · cases e; exact ⟨_, rfl, .int m⟩
            · cases e
            · cases e
            · cases e
            · simp at e
          · rcases j with _ | _ | _ | _ | _ | j
            · cases e; exact ⟨p, _, rfl, e1, ⟨hpq, fun z => z.2.1 rfl, fun z => nomatch z⟩, hcells⟩
            · cases e
            · cases e
            · cases e
            · cases e
            · simp at e
          · rcases j with _ | _ | _ | _ | _ | j <;> first | cases e | simp at e
          · rcases h with h | h
            · subst h; rw [e2]; simp
            · exact h.1
        refine ⟨tW W' fun ρ E => Wg.wSs ⟨fun _ => none, Fsp⟩ Wg.f_law_draw.body ρ E, ?_, ?_⟩
        · refine PSs.nox (snd_Ss (T := T1) (N := N) Wg.f_law_draw.body scope body _ hchk ⟨rfl, hK, rfl, FS.nd, rfl, ?_, b.blt, b.rng, b.zp, b.st, fun f x hf => ?_, fun i hi => ?_, (fun h => nomatch (show false = true from h)), fun g x h => by simp [T1] at h⟩ rfl FS.kind rfl)
          · have := hr.un
            show (A.deeper (envOfC qual scope s.heap.objs.size a cdv)).units + 65 < cLine
            omega
          · have e : f = 2 := by
              by_cases q : f = 2
              · exact q
              · simp [T1, q] at hf
            subst e
            have ex : x = "_law_spread" := by simpa [T1] using hf.symm
            subst ex
            obtain ⟨a', fd', ps', g1, g2, g3, g4⟩ := sc.ex
            exact ⟨a', fd', ps', 1, g1, g2, g3, hr, g4⟩
          · have hi : (i == 0) = false := hi
            show (if i = 0 then some (V.ref p) else none) = none
            rw [if_neg (by simpa using hi)]
        · refine ⟨_, _, _, ⟨fun _ => False, fun d ρ => ∃ (v i x c z : Int) (r : List Slot), d = .int v ∧ 0 ≤ v ∧ v < m ∧ 0 ≤ i ∧ ρ = .ol [.scr 1 ns, .int i, .int x, .int c, .int z] :: r, fun _ => False, fun _ => False⟩, r0,
            Wg.draw_ok ⟨fun _ => none, Fsp⟩ (fun c Q h => ⟨c, rfl, h⟩) ns i x c z m hi m0 m1 _ fun v i x c z r q1 q2 q3 => ⟨v, i, x, c, z, r, rfl, q1, q2, q3, rfl⟩, ⟨fun _ _ _ _ _ _ q => q.elim, fun v H' S' ρ' σ' d e r rv q => ?_, fun _ _ _ _ _ _ q => q.elim, fun _ _ _ _ _ _ q => q.elim⟩⟩
          obtain ⟨v', i', x', c', z', rr, rfl, q1, q2, q3, rfl⟩ := q
          cases rv
          have hk0 := r.keep 0 (.ref p) (by show (if 0 = 0 then some (V.ref p) else none) = _; rfl)
          obtain ⟨b', xs, g1, g2, g3, g4⟩ := r.ol 0 _ rfl
          rw [hk0] at g1
          cases g1
          have hps := e.s W.ps rfl
          refine h5 (.int v') H' (fun _ => False) (.int v') (fun a ha hpa => ?_) (fun p' hp' => ?_) (fun a h => h.elim) (.int v') (hQ v' q1 q2)
          · by_cases c1 : a = W.ps
            · subst c1; exact hps.2
            · exact e.z a ⟨ha, fun z => hpa (by rw [z]; exact hp), c1⟩
          · rw [hp] at hp'
            cases hp'
            cases g4 with
            | cons w1 g4 =>
              cases g4 with
              | cons w2 g4 =>
                cases g4 with
                | cons w3 g4 =>
                  cases g4 with
                  | cons w4 g4 =>
                    cases g4 with
                    | cons w5 g4 =>
                      cases g4
                      cases w2; cases w3; cases w4; cases w5
                      have fin : ∀ u, u = V.ref W.ps → H' p = some (.lst [u, .int i', .int x', .int c', .int z']) → Pool0 W H' p := fun u eu g => by
                        subst eu
                        exact ⟨ns, i', x', c', z', g, hps.2.trans e2, q3⟩
                      refine fin _ ?_ g2
                      cases w1 with
                      | scr hi _ _ => have := hi (by decide); cases this; rfl
                      | kscr hi _ => have := hi (by decide); cases this; rfl
/-! ### a def of the head -/
theorem defW_of {T : Tab} {x : Str} {fn : Wg.Fn} {params : Arguments} {body : List Stmt} {scope : Scope} {f : Addr} {fd : FuncData} {N ps : List Str} (F : FunD K x x params body scope [] [] f fd) (hm : mg x = some (.ref f)) (S : FnScope N ps scope)
    (hb : Binds K fd ps []) (h1 : ps.length = fn.pars) (h2 : N.length = fn.slots) (hc : chkSs T N scope fn.body body = true) : DefW T K mg x fn := by
  obtain ⟨oc, od, dV, kV, doc, pm, an, cdv, ct, osl, rfl, lk, hcd, _, _⟩ := F.ex
  exact ⟨f, x, params, body, scope, dV, kV, doc, pm, cdv, ct, oc, an, od, osl, N, ps, hm, F.kp, lk, hcd, S, hb, h1, h2, hc⟩
/-! ### the law -/
def wdOf (K : PySem.W.Frag) (fnT : Nat → Option Addr) (P : Option Addr) (ps : Addr) : Wd := { K := K, P := P, ps := ps, fn := fnT }
def spLaw (K : PySem.W.Frag) : Sp := fun vs H Q _ => ∃ (a : Addr) (ns : List Int), vs = [.ref a] ∧ SqL K H a (ns.map V.int) ∧ ∀ H', Q (.bl true) H'
theorem law_cal {T : Tab} {fnT : Nat → Option Addr} {n k : Nat} (b : Base K mg) (fv : T.fv = true → ∀ f a, fnT f = some a → f ≠ 1 → ∃ x, T.fn f = some x ∧ mg x = some (.ref a))
    (con : ∀ P ps g x, T.con g = some x → ∃ v u d, mg x = some u ∧ RelV v u ∧ Pg.G g = some d ∧ ∀ S H, Rep (wdOf K fnT P ps) S H v d)
    (defs : ∀ f x, T.fn f = some x → f ≠ 0 → ∃ fn, Pg.fns f = some fn ∧ DefW T K mg x fn)
    (ds : DefW T0 K mg "_law_spread" Wg.f_law_spread) (dd : DefW T1 K mg "_law_draw" Wg.f_law_draw) (h0 : ∀ x, T.fn 0 = some x → x = "_law_draw") (hp : Pg.fns 1 = some Wg.f_law_pool)
    {fnL : Wg.Fn} {rest : Sts} {f : Addr} {fd : FuncData} {qual : Str} {params : Arguments} {body : List Stmt} {scope : Scope} {N ps : List Str} (FL : FunD K "law" qual params body scope [] [] f fd) (FS : FnScope N ps scope) (hpars : ps.length = 1) (hslots : N.length = k + 2) (hchk : chkSs T N scope fnL.body body = true)
    (hL : fnL = ⟨k + 2, 1, .c (.asg (.nm 1) (.call 1 (.c (.var 0) .n))) rest⟩)
    (pure : Wg.wSs ⟨Pg.G, Wg.run Pg (n + 1)⟩ rest (.un :: .sh .pool :: List.replicate k .un) ⟨fun _ => False, fun d _ => d = .bl true, fun _ => False, fun _ => False⟩) :
    FnOk P w K mg base CX0 (n + 1 + 2 + 1) f fd ps (spLaw K) := by
  subst hL
  have known : ∀ Pa ps, Known K mg T (wdOf K fnT Pa ps) Pg := fun Pa ps => ⟨rfl, rfl, b.blt, b.rng, b.zp, b.st, fv, con Pa ps, defs⟩
  have ok : ∀ Pa ps f x, T.fn f = some x → CalW P w K mg base (n + 1 + 2) x (SpF (wdOf K fnT Pa ps) (Wg.run Pg (n + 1)) f) := fun Pa ps f x hf =>
    all_ok (known Pa ps) (k0 := 2) (fun x hx => by rw [h0 x hx]; exact draw_cal rfl rfl b ds dd) (n + 1) f x hf
  have len : ∀ vs H Q E, spLaw K vs H Q E → vs.length = ps.length := fun vs H Q E ⟨a, ns, e, _⟩ => by
    subst e
    rw [hpars]
    rfl
  refine FL.ok FS len fun cdv A outer s H vs Q E hr hsp => ?_
  obtain ⟨sa, ns, rfl, hS, hQ⟩ := hsp
  have good : ∀ Pa q, Good T (wdOf K fnT Pa q) ⟨Pg.G, Wg.run Pg (n + 1)⟩ N (cxOf CX0 P w K mg base N qual scope f cdv A outer s H E).nox := fun Pa q => by
    refine ⟨rfl, rfl, rfl, FS.nd, rfl, ?_, b.blt, b.rng, b.zp, b.st, fun f' x hf => ?_, fun _ _ => rfl, fv, con Pa q⟩
    · have := hr.un
      show (A.deeper (envOfC qual scope s.heap.objs.size f cdv)).units + 65 < cLine
      omega
    · obtain ⟨a', fd', ps', g1, g2, g3, g4⟩ := (ok Pa q f' x hf).ex
      exact ⟨a', fd', ps', _, g1, g2, g3, hr, g4⟩
  cases body with
  | nil => unfold chkSs at hchk; cases hchk
  | cons st0 sts =>
    have hchk : (chkS T N scope (.asg (.nm 1) (.call 1 (.c (.var 0) .n))) st0 && chkSs T N scope rest sts) = true := by unfold chkSs at hchk; exact hchk
    simp only [Bool.and_eq_true] at hchk
    have h1 := snd_S (T := T) (N := N) _ scope st0 _ hchk.1 (good none 0) rfl FS.kind rfl
    have h2 : PSs (cxOf CX0 P w K mg base N qual scope f cdv A outer s H E).nox sts (fun D σ H => ∃ p q, tW (wdOf K fnT (some p) q) (fun ρ E => Wg.wSs ⟨Pg.G, Wg.run Pg (n + 1)⟩ rest ρ E) D σ H) :=
      ⟨fun pins s σ H D I ⟨p, q, h⟩ => (snd_Ss (T := T) (N := N) _ scope sts _ hchk.2 (good (some p) q) rfl FS.kind rfl).run pins s σ H D I h⟩
    refine ⟨_, PSs.nox (pss_cons h1 h2), ?_⟩
    have hnl : N.length = k + 2 := hslots
    obtain ⟨t, ht⟩ := Wg.pool_ok ⟨Pg.G, Wg.run Pg n⟩ ns
    -- the state at the entry
    obtain ⟨S, hS1, rep⟩ : ∃ S : AS, (∀ a, S a → H a ≠ none) ∧ Reps (wdOf K fnT none 0) S H [.ref sa] [.scr 0 ns] := by
      rcases hS with hS | hS
      · refine ⟨fun a => a = sa, fun a e => ?_, .cons (.scr (fun h => (h rfl).elim) rfl hS) .nil⟩
        subst e
        rcases hS with h | ⟨o, h⟩ <;> rw [h] <;> simp
      · exact ⟨fun _ => False, fun a e => e.elim, .cons (.kscr (fun h => (h rfl).elim) fun H => .inr hS) .nil⟩
    have r0 := entry (W := wdOf K fnT none 0) (N := N) (k := k + 1) rfl (fun a h => ⟨hS1 a h, fun e => nomatch e⟩) (fun p e => nomatch e) rep (by rw [hnl]; simp; omega)
    let ρ1 : Wg.Env := .sh (.scr 0 ns) :: .sh (.lst [.lst (ns.map .int), .int 0, .int 0, .int 0, .int t]) :: List.replicate k .un
    refine ⟨_, S, _, ⟨fun ρ => ρ = ρ1, fun _ _ => False, fun _ => False, fun _ => False⟩, r0, ?_, ⟨fun σ' H' S' ρ' e r q => ?_, fun _ _ _ _ _ _ _ _ _ q => q.elim, fun _ _ _ _ _ _ q => q.elim, fun _ _ _ _ _ _ q => q.elim⟩⟩
    · show Wg.live _ 0 ∧ Wg.run Pg (n + 1) 1 [.scr 0 ns] _
      refine ⟨trivial, ?_⟩
      show (match Pg.fns 1 with | some fn => Wg.wF ⟨Pg.G, Wg.run Pg n⟩ fn [.scr 0 ns] _ | none => False)
      rw [hp]
      exact ht _ rfl
    · subst q
      obtain ⟨v, g1, g2⟩ := r.sh 1 _ rfl
      cases g2 with
      | lst sp hp' hr' =>
        rename_i p xs
        cases hr' with
        | cons c1 hr' =>
          cases hr' with
          | cons c2 hr' =>
            cases hr' with
            | cons c3 hr' =>
              cases hr' with
              | cons c4 hr' =>
                cases hr' with
                | cons c5 hr' =>
                  cases hr'
                  cases c2; cases c3; cases c4; cases c5
                  cases c1 with
                  | lst sq hq hcells =>
                    rename_i q ys
                    have ey : ys = ns.map V.int := by
                      refine (?_ : ∀ {ns : List Int} {ys : List V}, Reps (wdOf K fnT none 0) S' H' ys (ns.map D.int) → ys = ns.map V.int) hcells
                      intro ns
                      induction ns with
                      | nil => intro ys h; cases h; rfl
                      | cons n ns ih =>
                        intro ys h
                        cases h with
                        | cons a b => cases a; rw [ih b]; rfl
                    subst ey
                    have hpq : p ≠ q := fun z => by
                      subst z
                      rw [hp'] at hq
                      cases ns with
                      | nil => cases hq
                      | cons n ns => cases hq
                    have hl := r.len
                    refine ⟨p, q, fun _ => False, fun a => a = q, .un :: .sh .pool :: List.replicate k .un, _, ?_, pure, ⟨fun _ _ _ _ _ _ q => q.elim, fun v H2 S2 ρ2 σ2 d e2 r2 rv q => ?_, fun _ _ _ _ _ _ q => q.elim, fun _ _ _ _ _ _ q => q.elim⟩⟩
                    · have shape : ∀ (j : Nat) (s : Slot), (.un :: .sh .pool :: List.replicate k .un : Wg.Env)[j]? = some s → (j = 1 ∧ s = .sh .pool) ∨ s = .un := fun j s e => by
                        rcases j with _ | _ | j
                        · cases e; exact .inr rfl
                        · cases e; exact .inl ⟨rfl, rfl⟩
                        · have e : (List.replicate k Slot.un)[j]? = some s := by simpa using e
                          exact .inr (List.eq_of_mem_replicate (List.mem_of_getElem? e))
                      refine ⟨by simpa [ρ1] using hl, fun j v e => (nomatch e), fun j d e => ?_, fun j l e => ?_, fun j l e => ?_, fun j1 j2 a o1 o2 q1 q2 => ?_, fun a h => ?_, fun a h z => z, fun p' hp2 => ?_⟩
                      · rcases shape j _ e with ⟨rfl, e⟩ | e
                        · cases e
                          exact ⟨_, g1, .pool rfl⟩
                        · cases e
                      · rcases shape j _ e with ⟨_, e⟩ | e <;> cases e
                      · rcases shape j _ e with ⟨_, e⟩ | e <;> cases e
                      · exfalso
                        cases z : (.un :: .sh .pool :: List.replicate k .un : Wg.Env)[j1]? with
                        | none => rw [z] at o1; exact o1
                        | some s =>
                          rw [z] at o1
                          rcases shape j1 s z with ⟨_, e⟩ | e <;> subst e <;> exact o1
                      · rcases h with h | h
                        · subst h; rw [hq]; simp
                        · exact h.elim
                      · cases hp2
                        exact ⟨hpq, fun z => z, rfl, ns, 0, 0, 0, t, hp', hq, Int.le_refl 0⟩
                    · subst q
                      cases rv
                      exact hQ H2
end
end WgS
namespace Wg
/-- 104 is_whole(value); value 0 -/
def f_is_whole : Fn := ⟨1, 1,
  (.c (.ret (.and (.blt .isInt (.c (.var 0) .n)) (.not (.blt .isBool (.c (.var 0) .n)))))
  .n)⟩
/-- 93 is_named(value, name, many); value 0, name 1, many 2 -/
def f_is_named : Fn := ⟨3, 3,
  (.c (.ret (.and (.blt .isTup (.c (.var 0) .n)) (.and (.cmp .eq (.blt .len (.c (.var 0) .n)) (.var 2)) (.and (.blt .isStr (.c (.idx (.var 0) (.lit (.int 0))) .n)) (.cmp .eq (.idx (.var 0) (.lit (.int 0))) (.var 1))))))
  .n)⟩
/-- 95 is_places(value, many); value 0, many 1, item 2, k 3 -/
def f_is_places : Fn := ⟨4, 2,
  (.c (.iff (.or (.not (.blt .isTup (.c (.var 0) .n))) (.not (.blt .all (.c (.lc [2] (.and (.call 104 (.c (.var 2) .n)) (.chn .le .lt (.lit (.int 0)) (.var 2) (.var 1))) (.nm 2) (.e (.var 0)) .n) .n)))) (.c (.ret (.lit (.bl false)))
   .n) .n)
  (.c (.ret (.blt .all (.c (.lc [3] (.cmp .lt (.idx (.var 0) (.var 3)) (.idx (.var 0) (.bin .add (.var 3) (.lit (.int 1))))) (.nm 3) (.range (.c (.bin .sub (.blt .len (.c (.var 0) .n)) (.lit (.int 1))) .n)) .n) .n)))
  .n))⟩
/-- 86 is_board(value); value 0, spot 1 -/
def f_is_board : Fn := ⟨2, 1,
  (.c (.iff (.or (.not (.blt .isTup (.c (.var 0) .n))) (.not (.chn .le .le (.lit (.int 1)) (.blt .len (.c (.var 0) .n)) (.glb 402)))) (.c (.ret (.lit (.bl false)))
   .n) .n)
  (.c (.for (.nm 1) (.e (.var 0)) (.c (.iff (.or (.not (.blt .isTup (.c (.var 1) .n))) (.or (.cmp .ne (.blt .len (.c (.var 1) .n)) (.lit (.int 2))) (.or (.not (.call 104 (.c (.idx (.var 1) (.lit (.int 0))) .n))) (.cmp .nin (.idx (.var 1) (.lit (.int 0))) (.tup (.c (.lit (.int 0)) (.c (.lit (.int 1)) .n))))))) (.c (.ret (.lit (.bl false)))
    .n) .n)
   (.c (.iff (.or (.not (.call 95 (.c (.idx (.var 1) (.lit (.int 1))) (.c (.blt .len (.c (.var 0) .n)) .n)))) (.cmp .eq (.blt .len (.c (.idx (.var 1) (.lit (.int 1))) .n)) (.lit (.int 0)))) (.c (.ret (.lit (.bl false)))
    .n) .n)
   .n)))
  (.c (.ret (.lit (.bl true)))
  .n)))⟩
/-- 223 turned_board(board); board 0, owner 1, ways 2 -/
def f_turned_board : Fn := ⟨3, 1,
  (.c (.ret (.blt .tuple (.c (.lc [1, 2] (.tup (.c (.bin .sub (.lit (.int 1)) (.var 1)) (.c (.var 2) .n))) (.tp (.c (.nm 1) (.c (.nm 2) .n))) (.e (.var 0)) .n) .n)))
  .n)⟩
/-- 100 is_strategy(board, player, value); board 0, player 1, value 2, owner 3, ways 4, item 5 -/
def f_is_strategy : Fn := ⟨6, 3,
  (.c (.iff (.or (.not (.blt .isTup (.c (.var 2) .n))) (.cmp .ne (.blt .len (.c (.var 2) .n)) (.blt .len (.c (.var 0) .n)))) (.c (.ret (.lit (.bl false)))
   .n) .n)
  (.c (.for (.tp (.c (.tp (.c (.nm 3) (.c (.nm 4) .n))) (.c (.nm 5) .n))) (.zip (.c (.var 0) (.c (.var 2) .n))) (.c (.iff (.and (.cmp .ne (.var 3) (.var 1)) (.cmp .notN (.var 5) (.lit .non))) (.c (.ret (.lit (.bl false)))
    .n) .n)
   (.c (.iff (.and (.cmp .eq (.var 3) (.var 1)) (.or (.not (.call 104 (.c (.var 5) .n))) (.cmp .nin (.var 5) (.var 4)))) (.c (.ret (.lit (.bl false)))
    .n) .n)
   .n)))
  (.c (.ret (.lit (.bl true)))
  .n)))⟩
/-- 163 need_strategy(board, player, strategy); board 0, player 1, strategy 2 -/
def f_need_strategy : Fn := ⟨3, 3,
  (.c (.iff (.not (.call 100 (.c (.var 0) (.c (.var 1) (.c (.var 2) .n))))) (.c .rse
   .n) .n)
  .n)⟩
/-- 142 left_by(board, player, strategy); board 0, player 1, strategy 2, owner 3, ways 4, item 5 -/
def f_left_by : Fn := ⟨6, 3,
  (.c (.exp (.call 163 (.c (.var 0) (.c (.var 1) (.c (.var 2) .n)))))
  (.c (.ret (.blt .tuple (.c (.lc [3, 4, 5] (.tup (.c (.var 3) (.c (.ife (.cmp .eq (.var 3) (.var 1)) (.tup (.c (.var 5) .n)) (.var 4)) .n))) (.tp (.c (.tp (.c (.nm 3) (.c (.nm 4) .n))) (.c (.nm 5) .n))) (.zip (.c (.var 0) (.c (.var 2) .n))) .n) .n)))
  .n))⟩
/-- 65 drawing_steps(board, player, goal); board 0, player 1, goal 2, found 3, step 4, grown 5, fresh 6, spot 7, known 8, way 9 -/
def f_drawing_steps : Fn := ⟨10, 3,
  (.c (.asg (.nm 3) (.lc [7] (.ife (.cmp .inn (.var 7) (.var 2)) (.lit (.int 0)) (.lit .non)) (.nm 7) (.range (.c (.blt .len (.c (.var 0) .n)) .n)) .n))
  (.c (.asg (.nm 4) (.lit (.int 0)))
  (.c (.asg (.nm 5) (.lit (.bl true)))
  (.c (.whl (.var 5) (.c (.aug 4 .add (.lit (.int 1)))
   (.c (.asg (.nm 6) (.lst .n))
   (.c (.for (.nm 7) (.range (.c (.blt .len (.c (.var 0) .n)) .n)) (.c (.iff (.cmp .isN (.idx (.var 3) (.var 7)) (.lit .non)) (.c (.asg (.nm 8) (.lc [9] (.cmp .notN (.idx (.var 3) (.var 9)) (.lit .non)) (.nm 9) (.e (.idx (.idx (.var 0) (.var 7)) (.lit (.int 1)))) .n))
     (.c (.iff (.ife (.cmp .eq (.idx (.idx (.var 0) (.var 7)) (.lit (.int 0))) (.var 1)) (.blt .any (.c (.var 8) .n)) (.blt .all (.c (.var 8) .n))) (.c (.exp (.mth .append (.var 6) (.c (.var 7) .n)))
      .n) .n)
     .n)) .n)
    .n))
   (.c (.for (.nm 7) (.e (.var 6)) (.c (.asg (.sb 3 (.var 7)) (.var 4))
    .n))
   (.c (.asg (.nm 5) (.cmp .gt (.blt .len (.c (.var 6) .n)) (.lit (.int 0))))
   .n))))))
  (.c (.ret (.blt .tuple (.c (.var 3) .n)))
  .n)))))⟩
/-- 67 drawn_in(board, player, goal); board 0, player 1, goal 2, steps 3, spot 4 -/
def f_drawn_in : Fn := ⟨5, 3,
  (.c (.asg (.nm 3) (.call 65 (.c (.var 0) (.c (.var 1) (.c (.var 2) .n)))))
  (.c (.ret (.blt .tuple (.c (.lc [4] (.var 4) (.nm 4) (.range (.c (.blt .len (.c (.var 0) .n)) .n)) (.c (.cmp .notN (.idx (.var 3) (.var 4)) (.lit .non)) .n)) .n)))
  .n))⟩
/-- 183 reached_from(board, start); board 0, start 1, found 2, at 3, way 4 -/
def f_reached_from : Fn := ⟨5, 2,
  (.c (.asg (.nm 2) (.lst (.c (.var 1) .n)))
  (.c (.asg (.nm 3) (.lit (.int 0)))
  (.c (.whl (.cmp .lt (.var 3) (.blt .len (.c (.var 2) .n))) (.c (.exp (.mth .extend (.var 2) (.c (.lc [4] (.var 4) (.nm 4) (.e (.idx (.idx (.var 0) (.idx (.var 2) (.var 3))) (.lit (.int 1)))) (.c (.cmp .nin (.var 4) (.var 2)) .n)) .n)))
   (.c (.aug 3 .add (.lit (.int 1)))
   .n)))
  (.c (.ret (.blt .tuple (.c (.blt .sorted (.c (.var 2) .n)) .n)))
  .n))))⟩
/-- 233 within(board, spots); board 0, spots 1, found 2, spot 3, owner 4, ways 5, way 6 -/
def f_within : Fn := ⟨7, 2,
  (.c (.asg (.nm 2) (.lst .n))
  (.c (.for (.nm 3) (.range (.c (.blt .len (.c (.var 0) .n)) .n)) (.c (.asg (.tp (.c (.nm 4) (.c (.nm 5) .n))) (.idx (.var 0) (.var 3)))
   (.c (.exp (.mth .append (.var 2) (.c (.tup (.c (.var 4) (.c (.ife (.cmp .inn (.var 3) (.var 1)) (.blt .tuple (.c (.lc [6] (.var 6) (.nm 6) (.e (.var 5)) (.c (.cmp .inn (.var 6) (.var 1)) .n)) .n)) (.tup .n)) .n))) .n)))
   .n)))
  (.c (.ret (.blt .tuple (.c (.var 2) .n)))
  .n)))⟩
/-- 68 drawn_within(board, player, goal, spots); board 0, player 1, goal 2, spots 3, part 4, known 5, chosen 6, grown 7, spot 8, owner 9, ways 10, near 11, way 12 -/
def f_drawn_within : Fn := ⟨13, 4,
  (.c (.asg (.nm 4) (.call 233 (.c (.var 0) (.c (.var 3) .n))))
  (.c (.asg (.nm 5) (.dc [8] (.var 8) (.lit (.bl true)) (.nm 8) (.e (.var 2)) .n))
  (.c (.asg (.nm 6) (.dct .n))
  (.c (.asg (.nm 7) (.lit (.bl true)))
  (.c (.whl (.var 7) (.c (.asg (.nm 7) (.lit (.bl false)))
   (.c (.for (.nm 8) (.e (.var 3)) (.c (.iff (.cmp .nin (.var 8) (.var 5)) (.c (.asg (.tp (.c (.nm 9) (.c (.nm 10) .n))) (.idx (.var 4) (.var 8)))
     (.c (.asg (.nm 11) (.lc [12] (.var 12) (.nm 12) (.e (.var 10)) (.c (.cmp .inn (.var 12) (.var 5)) .n)))
     (.c (.iff (.ife (.cmp .eq (.var 9) (.var 1)) (.cmp .gt (.blt .len (.c (.var 11) .n)) (.lit (.int 0))) (.cmp .eq (.blt .len (.c (.var 11) .n)) (.blt .len (.c (.var 10) .n)))) (.c (.asg (.sb 5 (.var 8)) (.lit (.bl true)))
      (.c (.asg (.nm 7) (.lit (.bl true)))
      (.c (.iff (.cmp .eq (.var 9) (.var 1)) (.c (.asg (.sb 6 (.var 8)) (.idx (.var 11) (.lit (.int 0))))
       .n) .n)
      .n))) .n)
     .n))) .n)
    .n))
   .n)))
  (.c (.ret (.tup (.c (.blt .tuple (.c (.lc [8] (.var 8) (.nm 8) (.e (.var 3)) (.c (.cmp .inn (.var 8) (.var 5)) .n)) .n)) (.c (.var 6) .n))))
  .n))))))⟩
/-- 201 solved_levels(board, levels, spots); board 0, levels 1, spots 2, owners 3, chosen 4, left 5, top 6, player 7, goal 8, drawn 9, ways 10, inner 11, turns 12, lost 13, gone 14, spot 15 -/
def f_solved_levels : Fn := ⟨16, 3,
  (.c (.par2d 3 4)
  (.c (.asg (.nm 5) (.var 2))
  (.c (.whl (.cmp .gt (.blt .len (.c (.var 5) .n)) (.lit (.int 0))) (.c (.asg (.nm 6) (.blt .max (.c (.lc [15] (.idx (.var 1) (.var 15)) (.nm 15) (.e (.var 5)) .n) .n)))
   (.c (.asg (.nm 7) (.bin .mod (.var 6) (.lit (.int 2))))
   (.c (.asg (.nm 8) (.blt .tuple (.c (.lc [15] (.var 15) (.nm 15) (.e (.var 5)) (.c (.cmp .eq (.idx (.var 1) (.var 15)) (.var 6)) .n)) .n)))
   (.c (.asg (.tp (.c (.nm 9) (.c (.nm 10) .n))) (.call 68 (.c (.var 0) (.c (.var 7) (.c (.var 8) (.c (.var 5) .n))))))
   (.c (.asg (.tp (.c (.nm 11) (.c (.nm 12) .n))) (.call 201 (.c (.var 0) (.c (.var 1) (.c (.blt .tuple (.c (.lc [15] (.var 15) (.nm 15) (.e (.var 5)) (.c (.cmp .nin (.var 15) (.var 9)) .n)) .n)) .n)))))
   (.c (.asg (.nm 13) (.blt .tuple (.c (.lc [15] (.var 15) (.nm 15) (.e (.var 11)) (.c (.cmp .ne (.idx (.var 11) (.var 15)) (.var 7)) .n)) .n)))
   (.c (.iff (.cmp .eq (.blt .len (.c (.var 13) .n)) (.lit (.int 0))) (.c (.exp (.mth .update (.var 3) (.c (.dc [15] (.var 15) (.var 7) (.nm 15) (.e (.var 5)) .n) .n)))
    (.c (.exp (.mth .update (.var 4) (.c (.var 12) .n)))
    (.c (.exp (.mth .update (.var 4) (.c (.var 10) .n)))
    (.c (.exp (.mth .update (.var 4) (.c (.call 227 (.c (.var 0) (.c (.var 7) (.c (.var 8) (.c (.var 5) .n))))) .n)))
    (.c (.ret (.tup (.c (.var 3) (.c (.var 4) .n))))
    .n))))) .n)
   (.c (.asg (.tp (.c (.nm 14) (.c (.nm 10) .n))) (.call 68 (.c (.var 0) (.c (.bin .sub (.lit (.int 1)) (.var 7)) (.c (.var 13) (.c (.var 5) .n))))))
   (.c (.exp (.mth .update (.var 3) (.c (.dc [15] (.var 15) (.bin .sub (.lit (.int 1)) (.var 7)) (.nm 15) (.e (.var 14)) .n) .n)))
   (.c (.exp (.mth .update (.var 4) (.c (.dc [15] (.var 15) (.idx (.var 12) (.var 15)) (.nm 15) (.e (.var 13)) (.c (.cmp .ne (.idx (.idx (.var 0) (.var 15)) (.lit (.int 0))) (.var 7)) .n)) .n)))
   (.c (.exp (.mth .update (.var 4) (.c (.var 10) .n)))
   (.c (.asg (.nm 5) (.blt .tuple (.c (.lc [15] (.var 15) (.nm 15) (.e (.var 5)) (.c (.cmp .nin (.var 15) (.var 14)) .n)) .n)))
   .n)))))))))))))
  (.c (.ret (.tup (.c (.var 3) (.c (.var 4) .n))))
  .n))))⟩
/-- 227 ways_within(board, player, goal, spots); board 0, player 1, goal 2, spots 3, found 4, spot 5, way 6 -/
def f_ways_within : Fn := ⟨7, 4,
  (.c (.asg (.nm 4) (.dct .n))
  (.c (.for (.nm 5) (.e (.var 2)) (.c (.iff (.cmp .eq (.idx (.idx (.var 0) (.var 5)) (.lit (.int 0))) (.var 1)) (.c (.asg (.sb 4 (.var 5)) (.idx (.lc [6] (.var 6) (.nm 6) (.e (.idx (.idx (.var 0) (.var 5)) (.lit (.int 1)))) (.c (.cmp .inn (.var 6) (.var 3)) .n)) (.lit (.int 0))))
    .n) .n)
   .n))
  (.c (.ret (.var 4))
  .n)))⟩
/-- 148 level_wins(board, levels); board 0, levels 1, owners 2, spot 3 -/
def f_level_wins : Fn := ⟨4, 2,
  (.c (.asg (.nm 2) (.idx (.call 201 (.c (.var 0) (.c (.var 1) (.c (.rng true (.c (.blt .len (.c (.var 0) .n)) .n)) .n)))) (.lit (.int 0))))
  (.c (.ret (.blt .tuple (.c (.lc [3] (.var 3) (.nm 3) (.range (.c (.blt .len (.c (.var 0) .n)) .n)) (.c (.cmp .eq (.idx (.var 2) (.var 3)) (.lit (.int 0))) .n)) .n)))
  .n))⟩
/-- 147 level_strategies(board, levels); board 0, levels 1, owners 2, chosen 3, found 4, player 5, strategy 6, spot 7, owner 8, ways 9, way 10 -/
def f_level_strategies : Fn := ⟨11, 2,
  (.c (.asg (.tp (.c (.nm 2) (.c (.nm 3) .n))) (.call 201 (.c (.var 0) (.c (.var 1) (.c (.rng true (.c (.blt .len (.c (.var 0) .n)) .n)) .n)))))
  (.c (.asg (.nm 4) (.lst .n))
  (.c (.for (.nm 5) (.e (.tup (.c (.lit (.int 0)) (.c (.lit (.int 1)) .n)))) (.c (.asg (.nm 6) (.lst .n))
   (.c (.for (.nm 7) (.range (.c (.blt .len (.c (.var 0) .n)) .n)) (.c (.asg (.tp (.c (.nm 8) (.c (.nm 9) .n))) (.idx (.var 0) (.var 7)))
    (.c (.asg (.nm 10) (.ife (.and (.cmp .eq (.idx (.var 2) (.var 7)) (.var 8)) (.cmp .inn (.var 7) (.var 3))) (.idx (.var 3) (.var 7)) (.idx (.var 9) (.lit (.int 0)))))
    (.c (.exp (.mth .append (.var 6) (.c (.ife (.cmp .eq (.var 8) (.var 5)) (.var 10) (.lit .non)) .n)))
    .n))))
   (.c (.exp (.mth .append (.var 4) (.c (.blt .tuple (.c (.var 6) .n)) .n)))
   .n))))
  (.c (.ret (.blt .tuple (.c (.var 4) .n)))
  .n))))⟩
/-- 80 has_ring_of(left, levels, spots, odd); left 0, levels 1, spots 2, odd 3, spot 4, low 5, way 6, one 7 -/
def f_has_ring_of : Fn := ⟨8, 4,
  (.c (.for (.nm 4) (.e (.var 2)) (.c (.iff (.cmp .eq (.bin .mod (.idx (.var 1) (.var 4)) (.lit (.int 2))) (.var 3)) (.c (.asg (.nm 5) (.call 233 (.c (.var 0) (.c (.blt .tuple (.c (.lc [7] (.var 7) (.nm 7) (.e (.var 2)) (.c (.cmp .le (.idx (.var 1) (.var 7)) (.idx (.var 1) (.var 4))) .n)) .n)) .n))))
    (.c (.for (.nm 6) (.e (.idx (.idx (.var 5) (.var 4)) (.lit (.int 1)))) (.c (.iff (.cmp .inn (.var 4) (.call 183 (.c (.var 5) (.c (.var 6) .n)))) (.c (.ret (.lit (.bl true)))
      .n) .n)
     .n))
    .n)) .n)
   .n))
  (.c (.ret (.lit (.bl false)))
  .n))⟩
/-- 81 holds_levels(board, player, strategy, levels, start); board 0, player 1, strategy 2, levels 3, start 4, left 5 -/
def f_holds_levels : Fn := ⟨6, 5,
  (.c (.asg (.nm 5) (.call 142 (.c (.var 0) (.c (.var 1) (.c (.var 2) .n)))))
  (.c (.ret (.not (.call 80 (.c (.var 5) (.c (.var 3) (.c (.call 183 (.c (.var 5) (.c (.var 4) .n))) (.c (.bin .sub (.lit (.int 1)) (.var 1)) .n)))))))
  .n))⟩
/-- 57 check_levels(board, levels, start, value); board 0, levels 1, start 2, value 3, word 4, player 5 -/
def f_check_levels : Fn := ⟨6, 4,
  (.c (.for (.tp (.c (.nm 4) (.c (.nm 5) .n))) (.e (.tup (.c (.tup (.c (.lit (.str [109, 97, 107, 101, 114])) (.c (.lit (.int 0)) .n))) (.c (.tup (.c (.lit (.str [115, 112, 111, 105, 108, 101, 114])) (.c (.lit (.int 1)) .n))) .n)))) (.c (.iff (.and (.call 93 (.c (.var 3) (.c (.var 4) (.c (.lit (.int 2)) .n)))) (.call 100 (.c (.var 0) (.c (.var 5) (.c (.idx (.var 3) (.lit (.int 1))) .n))))) (.c (.ret (.call 81 (.c (.var 0) (.c (.var 5) (.c (.idx (.var 3) (.lit (.int 1))) (.c (.var 1) (.c (.var 2) .n)))))))
    .n) .n)
   .n))
  (.c (.ret (.lit (.bl false)))
  .n))⟩
/-- 217 talk_board(talk); talk 0, ins 1, _ 2, states 3, many 4, spots 5, inner 6, k 7, levels 8, row 9, call 10, level 11 -/
def f_talk_board : Fn := ⟨12, 1,
  (.c (.asg (.tp (.c (.nm 1) (.c (.nm 2) (.c (.nm 3) .n)))) (.var 0))
  (.c (.asg (.nm 4) (.blt .len (.c (.var 3) .n)))
  (.c (.asg (.nm 5) (.lst .n))
  (.c (.asg (.nm 6) (.lst .n))
  (.c (.for (.nm 7) (.range (.c (.var 4) .n)) (.c (.exp (.mth .append (.var 5) (.c (.tup (.c (.lit (.int 1)) (.c (.blt .tuple (.c (.lc [10] (.bin .add (.bin .add (.var 4) (.bin .mul (.var 7) (.var 1))) (.var 10)) (.nm 10) (.range (.c (.var 1) .n)) .n) .n)) .n))) .n)))
   (.c (.exp (.mth .extend (.var 6) (.c (.lc [9] (.tup (.c (.lit (.int 0)) (.c (.blt .tuple (.c (.blt .sortedSet (.c (.var 9) .n)) .n)) .n))) (.nm 9) (.e (.idx (.idx (.var 3) (.var 7)) (.lit (.int 1)))) .n) .n)))
   .n)))
  (.c (.asg (.nm 8) (.bin .add (.blt .tuple (.c (.lc [11, 2] (.var 11) (.tp (.c (.nm 11) (.c (.nm 2) .n))) (.e (.var 3)) .n) .n)) (.bin .mul (.tup (.c (.lit (.int 0)) .n)) (.bin .mul (.var 4) (.var 1)))))
  (.c (.ret (.tup (.c (.blt .tuple (.c (.bin .add (.var 5) (.var 6)) .n)) (.c (.var 8) .n))))
  .n)))))))⟩
/-- 218 talk_paper(talk); talk 0, ins 1, _ 2, states 3, many 4, spots 5, levels 6, one 7, two 8, found 9, k 10, ways 11, call 12 -/
def f_talk_paper : Fn := ⟨13, 1,
  (.c (.asg (.tp (.c (.nm 1) (.c (.nm 2) (.c (.nm 3) .n)))) (.var 0))
  (.c (.asg (.nm 4) (.blt .len (.c (.var 3) .n)))
  (.c (.asg (.tp (.c (.nm 5) (.c (.nm 6) .n))) (.call 217 (.c (.var 0) .n)))
  (.c (.asg (.tp (.c (.nm 7) (.c (.nm 8) .n))) (.call 147 (.c (.var 5) (.c (.var 6) .n))))
  (.c (.iff (.cmp .nin (.lit (.int 0)) (.call 148 (.c (.var 5) (.c (.var 6) .n)))) (.c (.ret (.tup (.c (.lit (.str [114, 101, 102, 117, 115, 101, 114])) (.c (.blt .tuple (.c (.lc [10] (.bin .mod (.bin .sub (.idx (.var 8) (.var 10)) (.var 4)) (.var 1)) (.nm 10) (.range (.c (.var 4) .n)) .n) .n)) .n))))
   .n) .n)
  (.c (.asg (.nm 9) (.lst .n))
  (.c (.for (.nm 10) (.range (.c (.var 4) .n)) (.c (.asg (.nm 11) (.lc [12] (.idx (.var 7) (.bin .add (.bin .add (.var 4) (.bin .mul (.var 10) (.var 1))) (.var 12))) (.nm 12) (.range (.c (.var 1) .n)) .n))
   (.c (.exp (.mth .append (.var 9) (.c (.blt .tuple (.c (.lc [12] (.mth .index (.idx (.idx (.idx (.var 3) (.var 10)) (.lit (.int 1))) (.var 12)) (.c (.idx (.var 11) (.var 12)) .n)) (.nm 12) (.range (.c (.var 1) .n)) .n) .n)) .n)))
   .n)))
  (.c (.ret (.tup (.c (.lit (.str [114, 101, 115, 112, 111, 110, 100, 101, 114])) (.c (.blt .tuple (.c (.var 9) .n)) .n))))
  .n))))))))⟩
/-- 144 left_by_responder(talk, responder); talk 0, responder 1, ins 2, _ 3, states 4, found 5, k 6, call 7 -/
def f_left_by_responder : Fn := ⟨8, 2,
  (.c (.asg (.tp (.c (.nm 2) (.c (.nm 3) (.c (.nm 4) .n)))) (.var 0))
  (.c (.asg (.nm 5) (.lst .n))
  (.c (.for (.nm 6) (.range (.c (.blt .len (.c (.var 4) .n)) .n)) (.c (.exp (.mth .append (.var 5) (.c (.tup (.c (.lit (.int 1)) (.c (.blt .tuple (.c (.blt .sortedSet (.c (.lc [7] (.idx (.idx (.idx (.idx (.var 4) (.var 6)) (.lit (.int 1))) (.var 7)) (.idx (.idx (.var 1) (.var 6)) (.var 7))) (.nm 7) (.range (.c (.var 2) .n)) .n) .n)) .n)) .n))) .n)))
   .n))
  (.c (.ret (.blt .tuple (.c (.var 5) .n)))
  .n))))⟩
/-- 143 left_by_refuser(talk, refuser); talk 0, refuser 1, state 2, call 3 -/
def f_left_by_refuser : Fn := ⟨4, 2,
  (.c (.ret (.blt .tuple (.c (.lc [2, 3] (.tup (.c (.lit (.int 0)) (.c (.blt .tuple (.c (.blt .sortedSet (.c (.idx (.idx (.var 2) (.lit (.int 1))) (.var 3)) .n)) .n)) .n))) (.tp (.c (.nm 2) (.c (.nm 3) .n))) (.zip (.c (.idx (.var 0) (.lit (.int 2))) (.c (.var 1) .n))) .n) .n)))
  .n)⟩
/-- 98 is_responder(talk, value); talk 0, value 1, ins 2, outs 3, states 4, row 5, item 6 -/
def f_is_responder : Fn := ⟨7, 2,
  (.c (.asg (.tp (.c (.nm 2) (.c (.nm 3) (.c (.nm 4) .n)))) (.var 0))
  (.c (.iff (.or (.not (.blt .isTup (.c (.var 1) .n))) (.cmp .ne (.blt .len (.c (.var 1) .n)) (.blt .len (.c (.var 4) .n)))) (.c (.ret (.lit (.bl false)))
   .n) .n)
  (.c (.for (.nm 5) (.e (.var 1)) (.c (.iff (.or (.not (.blt .isTup (.c (.var 5) .n))) (.cmp .ne (.blt .len (.c (.var 5) .n)) (.var 2))) (.c (.ret (.lit (.bl false)))
    .n) .n)
   (.c (.iff (.not (.blt .all (.c (.lc [6] (.and (.call 104 (.c (.var 6) .n)) (.chn .le .lt (.lit (.int 0)) (.var 6) (.var 3))) (.nm 6) (.e (.var 5)) .n) .n))) (.c (.ret (.lit (.bl false)))
    .n) .n)
   .n)))
  (.c (.ret (.lit (.bl true)))
  .n))))⟩
/-- 97 is_refuser(talk, value); talk 0, value 1, item 2 -/
def f_is_refuser : Fn := ⟨3, 2,
  (.c (.iff (.or (.not (.blt .isTup (.c (.var 1) .n))) (.cmp .ne (.blt .len (.c (.var 1) .n)) (.blt .len (.c (.idx (.var 0) (.lit (.int 2))) .n)))) (.c (.ret (.lit (.bl false)))
   .n) .n)
  (.c (.ret (.blt .all (.c (.lc [2] (.and (.call 104 (.c (.var 2) .n)) (.chn .le .lt (.lit (.int 0)) (.var 2) (.idx (.var 0) (.lit (.int 0))))) (.nm 2) (.e (.var 1)) .n) .n)))
  .n))⟩
/-- 58 check_talk(talk, value); talk 0, value 1, levels 2, left 3, level 4, _ 5 -/
def f_check_talk : Fn := ⟨6, 2,
  (.c (.asg (.nm 2) (.blt .tuple (.c (.lc [4, 5] (.var 4) (.tp (.c (.nm 4) (.c (.nm 5) .n))) (.e (.idx (.var 0) (.lit (.int 2)))) .n) .n)))
  (.c (.iff (.and (.call 93 (.c (.var 1) (.c (.lit (.str [114, 101, 115, 112, 111, 110, 100, 101, 114])) (.c (.lit (.int 2)) .n)))) (.call 98 (.c (.var 0) (.c (.idx (.var 1) (.lit (.int 1))) .n)))) (.c (.asg (.nm 3) (.call 144 (.c (.var 0) (.c (.idx (.var 1) (.lit (.int 1))) .n))))
   (.c (.ret (.not (.call 80 (.c (.var 3) (.c (.var 2) (.c (.call 183 (.c (.var 3) (.c (.lit (.int 0)) .n))) (.c (.lit (.int 1)) .n)))))))
   .n)) .n)
  (.c (.iff (.and (.call 93 (.c (.var 1) (.c (.lit (.str [114, 101, 102, 117, 115, 101, 114])) (.c (.lit (.int 2)) .n)))) (.call 97 (.c (.var 0) (.c (.idx (.var 1) (.lit (.int 1))) .n)))) (.c (.asg (.nm 3) (.call 143 (.c (.var 0) (.c (.idx (.var 1) (.lit (.int 1))) .n))))
   (.c (.ret (.not (.call 80 (.c (.var 3) (.c (.var 2) (.c (.call 183 (.c (.var 3) (.c (.lit (.int 0)) .n))) (.c (.lit (.int 0)) .n)))))))
   .n)) .n)
  (.c (.ret (.lit (.bl false)))
  .n))))⟩
/-- 44 answers_to(responder, talk, calls); responder 0, talk 1, calls 2, found 3, state 4, call 5, answer 6 -/
def f_answers_to : Fn := ⟨7, 3,
  (.c (.asg (.nm 3) (.lst .n))
  (.c (.asg (.nm 4) (.lit (.int 0)))
  (.c (.for (.nm 5) (.e (.var 2)) (.c (.asg (.nm 6) (.idx (.idx (.var 0) (.var 4)) (.var 5)))
   (.c (.exp (.mth .append (.var 3) (.c (.var 6) .n)))
   (.c (.asg (.nm 4) (.idx (.idx (.idx (.idx (.idx (.var 1) (.lit (.int 2))) (.var 4)) (.lit (.int 1))) (.var 5)) (.var 6)))
   .n))))
  (.c (.ret (.blt .tuple (.c (.var 3) .n)))
  .n))))⟩
/-- 160 meet(one, two); one 0, two 1, spot 2 -/
def f_meet : Fn := ⟨3, 2,
  (.c (.ret (.blt .any (.c (.lc [2] (.cmp .inn (.var 2) (.var 1)) (.nm 2) (.e (.var 0)) .n) .n)))
  .n)⟩
/-- 78 good_set(wish, spots); wish 0, spots 1, name 2, item 3, spot 4, part 5, bad 6, good 7, ask 8, answer 9 -/
def f_good_set : Fn := ⟨10, 2,
  (.c (.asg (.tp (.c (.nm 2) (.c (.nm 3) .n))) (.var 0))
  (.c (.iff (.cmp .eq (.var 2) (.lit (.str [97, 103, 97, 105, 110]))) (.c (.ret (.call 160 (.c (.var 3) (.c (.var 1) .n))))
   .n) .n)
  (.c (.iff (.cmp .eq (.var 2) (.lit (.str [97, 116, 108, 97, 115, 116]))) (.c (.ret (.blt .all (.c (.lc [4] (.cmp .inn (.var 4) (.var 3)) (.nm 4) (.e (.var 1)) .n) .n)))
   .n) .n)
  (.c (.iff (.cmp .eq (.var 2) (.lit (.str [108, 101, 118, 101, 108, 115]))) (.c (.ret (.cmp .eq (.bin .mod (.blt .max (.c (.lc [4] (.idx (.var 3) (.var 4)) (.nm 4) (.e (.var 1)) .n) .n)) (.lit (.int 2))) (.lit (.int 0))))
   .n) .n)
  (.c (.iff (.cmp .eq (.var 2) (.lit (.str [97, 103, 97, 105, 110, 115]))) (.c (.ret (.blt .all (.c (.lc [5] (.call 160 (.c (.var 5) (.c (.var 1) .n))) (.nm 5) (.e (.var 3)) .n) .n)))
   .n) .n)
  (.c (.iff (.cmp .eq (.var 2) (.lit (.str [112, 97, 105, 114, 115]))) (.c (.ret (.blt .any (.c (.lc [6, 7] (.and (.not (.call 160 (.c (.var 6) (.c (.var 1) .n)))) (.call 160 (.c (.var 7) (.c (.var 1) .n)))) (.tp (.c (.nm 6) (.c (.nm 7) .n))) (.e (.var 3)) .n) .n)))
   .n) .n)
  (.c (.iff (.cmp .eq (.var 2) (.lit (.str [97, 110, 115, 119, 101, 114, 115]))) (.c (.ret (.blt .all (.c (.lc [8, 9] (.or (.not (.call 160 (.c (.var 8) (.c (.var 1) .n)))) (.call 160 (.c (.var 9) (.c (.var 1) .n)))) (.tp (.c (.nm 8) (.c (.nm 9) .n))) (.e (.var 3)) .n) .n)))
   .n) .n)
  (.c (.ret (.cmp .inn (.var 1) (.var 3)))
  .n))))))))⟩
/-- 169 other_spots(board, spots); board 0, spots 1, spot 2 -/
def f_other_spots : Fn := ⟨3, 2,
  (.c (.ret (.blt .tuple (.c (.lc [2] (.var 2) (.nm 2) (.range (.c (.blt .len (.c (.var 0) .n)) .n)) (.c (.cmp .nin (.var 2) (.var 1)) .n)) .n)))
  .n)⟩
/-- 168 one_move(board, player, goal); board 0, player 1, goal 2, found 3, spot 4, known 5, way 6 -/
def f_one_move : Fn := ⟨7, 3,
  (.c (.asg (.nm 3) (.lst .n))
  (.c (.for (.nm 4) (.range (.c (.blt .len (.c (.var 0) .n)) .n)) (.c (.asg (.nm 5) (.lc [6] (.cmp .inn (.var 6) (.var 2)) (.nm 6) (.e (.idx (.idx (.var 0) (.var 4)) (.lit (.int 1)))) .n))
   (.c (.iff (.ife (.cmp .eq (.idx (.idx (.var 0) (.var 4)) (.lit (.int 0))) (.var 1)) (.blt .any (.c (.var 5) .n)) (.blt .all (.c (.var 5) .n))) (.c (.exp (.mth .append (.var 3) (.c (.var 4) .n)))
    .n) .n)
   .n)))
  (.c (.ret (.blt .tuple (.c (.var 3) .n)))
  .n)))⟩
/-- 63 comes_again(board, player, goal); board 0, player 1, goal 2 -/
def f_comes_again : Fn := ⟨3, 3,
  (.c (.ret (.call 168 (.c (.var 0) (.c (.var 1) (.c (.call 67 (.c (.var 0) (.c (.var 1) (.c (.var 2) .n)))) .n)))))
  .n)⟩
/-- 36 again_rounds(board, spots); board 0, spots 1, found 2, back 3, goal 4, spot 5 -/
def f_again_rounds : Fn := ⟨6, 2,
  (.c (.asg (.nm 2) (.lst (.c (.var 1) .n)))
  (.c (.whl (.lit (.bl true)) (.c (.asg (.nm 3) (.call 63 (.c (.var 0) (.c (.lit (.int 0)) (.c (.idx (.var 2) (.neg (.lit (.int 1)))) .n)))))
   (.c (.asg (.nm 4) (.blt .tuple (.c (.lc [5] (.var 5) (.nm 5) (.e (.idx (.var 2) (.neg (.lit (.int 1))))) (.c (.cmp .inn (.var 5) (.var 3)) .n)) .n)))
   (.c (.iff (.cmp .eq (.var 4) (.idx (.var 2) (.neg (.lit (.int 1))))) (.c (.ret (.var 2))
    .n) .n)
   (.c (.exp (.mth .append (.var 2) (.c (.var 4) .n)))
   .n)))))
  .n))⟩
/-- 38 again_wins(board, spots); board 0, spots 1 -/
def f_again_wins : Fn := ⟨2, 2,
  (.c (.ret (.call 67 (.c (.var 0) (.c (.lit (.int 0)) (.c (.idx (.call 36 (.c (.var 0) (.c (.var 1) .n))) (.neg (.lit (.int 1)))) .n)))))
  .n)⟩
/-- 50 atlast_wins(board, spots); board 0, spots 1 -/
def f_atlast_wins : Fn := ⟨2, 2,
  (.c (.ret (.call 169 (.c (.var 0) (.c (.call 38 (.c (.call 223 (.c (.var 0) .n)) (.c (.call 169 (.c (.var 0) (.c (.var 1) .n))) .n))) .n))))
  .n)⟩
/-- 182 reach_wins(board, goal); board 0, goal 1 -/
def f_reach_wins : Fn := ⟨2, 2,
  (.c (.ret (.call 67 (.c (.var 0) (.c (.lit (.int 0)) (.c (.var 1) .n)))))
  .n)⟩
/-- 106 keep_wins(board, spots); board 0, spots 1 -/
def f_keep_wins : Fn := ⟨2, 2,
  (.c (.ret (.call 169 (.c (.var 0) (.c (.call 67 (.c (.var 0) (.c (.lit (.int 1)) (.c (.call 169 (.c (.var 0) (.c (.var 1) .n))) .n)))) .n))))
  .n)⟩
/-- 170 pairs_after(record, pairs, spot); record 0, pairs 1, spot 2, bad 3, level 4, place 5, k 6 -/
def f_pairs_after : Fn := ⟨7, 3,
  (.c (.asg (.nm 3) (.lc [6] (.var 6) (.nm 6) (.e (.var 0)) (.c (.cmp .inn (.var 2) (.idx (.idx (.var 1) (.var 6)) (.lit (.int 0)))) .n)))
  (.c (.asg (.nm 4) (.lit (.int 1)))
  (.c (.for (.nm 5) (.range (.c (.blt .len (.c (.var 0) .n)) .n)) (.c (.iff (.cmp .inn (.var 2) (.idx (.idx (.var 1) (.idx (.var 0) (.var 5))) (.lit (.int 1)))) (.c (.asg (.nm 4) (.blt .max (.c (.var 4) (.c (.bin .add (.bin .mul (.lit (.int 2)) (.var 5)) (.lit (.int 2))) .n))))
    .n) .n)
   (.c (.iff (.cmp .inn (.var 2) (.idx (.idx (.var 1) (.idx (.var 0) (.var 5))) (.lit (.int 0)))) (.c (.asg (.nm 4) (.blt .max (.c (.var 4) (.c (.bin .add (.bin .mul (.lit (.int 2)) (.var 5)) (.lit (.int 3))) .n))))
    .n) .n)
   .n)))
  (.c (.ret (.tup (.c (.blt .tuple (.c (.bin .add (.var 3) (.lc [6] (.var 6) (.nm 6) (.e (.var 0)) (.c (.cmp .nin (.var 6) (.var 3)) .n))) .n)) (.c (.var 4) .n))))
  .n))))⟩
/-- 83 index_wins(board, pairs); board 0, pairs 1, first 2, known 3, waiting 4, record 5, spot 6, way 7, node 8, nodes 9, places 10, spots 11, levels 12, after 13, level 14, wins 15, k 16 -/
def f_index_wins : Fn := ⟨17, 2,
  (.c (.asg (.nm 2) (.rng true (.c (.blt .len (.c (.var 1) .n)) .n)))
  (.c (.asg (.nm 3) (.dc [6] (.tup (.c (.var 2) (.c (.var 6) .n))) (.lit (.bl true)) (.nm 6) (.range (.c (.blt .len (.c (.var 0) .n)) .n)) .n))
  (.c (.asg (.nm 4) (.blt .sorted (.c (.blt .list (.c (.var 3) .n)) .n)))
  (.c (.whl (.cmp .gt (.blt .len (.c (.var 4) .n)) (.lit (.int 0))) (.c (.asg (.tp (.c (.nm 5) (.c (.nm 6) .n))) (.mth .pop (.var 4) .n))
   (.c (.for (.nm 7) (.e (.idx (.idx (.var 0) (.var 6)) (.lit (.int 1)))) (.c (.asg (.nm 8) (.tup (.c (.idx (.call 170 (.c (.var 5) (.c (.var 1) (.c (.var 6) .n)))) (.lit (.int 0))) (.c (.var 7) .n))))
    (.c (.iff (.cmp .nin (.var 8) (.var 3)) (.c (.asg (.sb 3 (.var 8)) (.lit (.bl true)))
     (.c (.exp (.mth .append (.var 4) (.c (.var 8) .n)))
     .n)) .n)
    .n)))
   .n)))
  (.c (.asg (.nm 9) (.blt .sorted (.c (.blt .list (.c (.var 3) .n)) .n)))
  (.c (.asg (.nm 10) (.dc [16] (.idx (.var 9) (.var 16)) (.var 16) (.nm 16) (.range (.c (.blt .len (.c (.var 9) .n)) .n)) .n))
  (.c (.asg (.nm 11) (.lst .n))
  (.c (.asg (.nm 12) (.lst .n))
  (.c (.for (.tp (.c (.nm 5) (.c (.nm 6) .n))) (.e (.var 9)) (.c (.asg (.tp (.c (.nm 13) (.c (.nm 14) .n))) (.call 170 (.c (.var 5) (.c (.var 1) (.c (.var 6) .n)))))
   (.c (.exp (.mth .append (.var 11) (.c (.tup (.c (.idx (.idx (.var 0) (.var 6)) (.lit (.int 0))) (.c (.blt .tuple (.c (.blt .sorted (.c (.lc [7] (.idx (.var 10) (.tup (.c (.var 13) (.c (.var 7) .n)))) (.nm 7) (.e (.idx (.idx (.var 0) (.var 6)) (.lit (.int 1)))) .n) .n)) .n)) .n))) .n)))
   (.c (.exp (.mth .append (.var 12) (.c (.var 14) .n)))
   .n))))
  (.c (.asg (.nm 15) (.call 148 (.c (.blt .tuple (.c (.var 11) .n)) (.c (.blt .tuple (.c (.var 12) .n)) .n))))
  (.c (.ret (.blt .tuple (.c (.lc [6] (.var 6) (.nm 6) (.range (.c (.blt .len (.c (.var 0) .n)) .n)) (.c (.cmp .inn (.idx (.var 10) (.tup (.c (.var 2) (.c (.var 6) .n)))) (.var 15)) .n)) .n)))
  .n)))))))))))⟩
/-- 203 solved_sets(board, good, spots); board 0, good 1, spots 2, owners 3, left 4, player 5, lost 6, spot 7, gone 8, drawn 9, inner 10, one 11 -/
def f_solved_sets : Fn := ⟨12, 3,
  (.c (.asg (.nm 3) (.dct .n))
  (.c (.asg (.nm 4) (.var 2))
  (.c (.whl (.cmp .gt (.blt .len (.c (.var 4) .n)) (.lit (.int 0))) (.c (.asg (.nm 5) (.ife (.callv (.var 1) (.c (.var 4) .n)) (.lit (.int 0)) (.lit (.int 1))))
   (.c (.asg (.nm 6) (.tup .n))
   (.c (.for (.nm 7) (.e (.var 4)) (.c (.asg (.nm 9) (.idx (.call 68 (.c (.var 0) (.c (.var 5) (.c (.tup (.c (.var 7) .n)) (.c (.var 4) .n))))) (.lit (.int 0))))
    (.c (.asg (.nm 10) (.call 203 (.c (.var 0) (.c (.var 1) (.c (.blt .tuple (.c (.lc [11] (.var 11) (.nm 11) (.e (.var 4)) (.c (.cmp .nin (.var 11) (.var 9)) .n)) .n)) .n)))))
    (.c (.asg (.nm 6) (.blt .tuple (.c (.lc [11] (.var 11) (.nm 11) (.e (.var 10)) (.c (.cmp .ne (.idx (.var 10) (.var 11)) (.var 5)) .n)) .n)))
    (.c (.iff (.cmp .gt (.blt .len (.c (.var 6) .n)) (.lit (.int 0))) (.c .brk
     .n) .n)
    .n)))))
   (.c (.iff (.cmp .eq (.blt .len (.c (.var 6) .n)) (.lit (.int 0))) (.c (.exp (.mth .update (.var 3) (.c (.dc [7] (.var 7) (.var 5) (.nm 7) (.e (.var 4)) .n) .n)))
    (.c (.ret (.var 3))
    .n)) .n)
   (.c (.asg (.nm 8) (.idx (.call 68 (.c (.var 0) (.c (.bin .sub (.lit (.int 1)) (.var 5)) (.c (.var 6) (.c (.var 4) .n))))) (.lit (.int 0))))
   (.c (.exp (.mth .update (.var 3) (.c (.dc [7] (.var 7) (.bin .sub (.lit (.int 1)) (.var 5)) (.nm 7) (.e (.var 8)) .n) .n)))
   (.c (.asg (.nm 4) (.blt .tuple (.c (.lc [7] (.var 7) (.nm 7) (.e (.var 4)) (.c (.cmp .nin (.var 7) (.var 8)) .n)) .n)))
   .n))))))))
  (.c (.ret (.var 3))
  .n))))⟩
/-- 109 lasting_wins(board, wish); board 0, wish 1, owners 2, spot 3 -/
def f_lasting_wins : Fn := ⟨4, 2,
  (.c (.asg (.nm 2) (.call 203 (.c (.var 0) (.c (.lam 302 [1]) (.c (.rng true (.c (.blt .len (.c (.var 0) .n)) .n)) .n)))))
  (.c (.ret (.blt .tuple (.c (.lc [3] (.var 3) (.nm 3) (.range (.c (.blt .len (.c (.var 0) .n)) .n)) (.c (.cmp .eq (.idx (.var 2) (.var 3)) (.lit (.int 0))) .n)) .n)))
  .n))⟩
/-- 216 table_wins(board, sets); board 0, sets 1 -/
def f_table_wins : Fn := ⟨2, 2,
  (.c (.ret (.call 109 (.c (.var 0) (.c (.tup (.c (.lit (.str [116, 97, 98, 108, 101])) (.c (.var 1) .n))) .n))))
  .n)⟩
/-- 222 turn_board(board, sets); board 0, sets 1, many 2, spots 3, k 4, spot 5, after 6, last 7, way 8 -/
def f_turn_board : Fn := ⟨9, 2,
  (.c (.asg (.nm 2) (.blt .len (.c (.var 0) .n)))
  (.c (.asg (.nm 3) (.lst .n))
  (.c (.for (.nm 4) (.range (.c (.blt .len (.c (.var 1) .n)) .n)) (.c (.for (.nm 5) (.range (.c (.var 2) .n)) (.c (.asg (.nm 6) (.ife (.cmp .inn (.var 5) (.idx (.var 1) (.var 4))) (.bin .mod (.bin .add (.var 4) (.lit (.int 1))) (.blt .len (.c (.var 1) .n))) (.var 4)))
    (.c (.exp (.mth .append (.var 3) (.c (.tup (.c (.idx (.idx (.var 0) (.var 5)) (.lit (.int 0))) (.c (.blt .tuple (.c (.lc [8] (.bin .add (.bin .mul (.var 6) (.var 2)) (.var 8)) (.nm 8) (.e (.idx (.idx (.var 0) (.var 5)) (.lit (.int 1)))) .n) .n)) .n))) .n)))
    .n)))
   .n))
  (.c (.asg (.nm 7) (.bin .sub (.blt .len (.c (.var 1) .n)) (.lit (.int 1))))
  (.c (.ret (.tup (.c (.blt .tuple (.c (.var 3) .n)) (.c (.blt .tuple (.c (.lc [5] (.bin .add (.bin .mul (.var 7) (.var 2)) (.var 5)) (.nm 5) (.e (.idx (.var 1) (.var 7))) .n) .n)) .n))))
  .n)))))⟩
/-- 41 agains_wins(board, sets); board 0, sets 1, spots 2, goal 3, wins 4, spot 5 -/
def f_agains_wins : Fn := ⟨6, 2,
  (.c (.asg (.tp (.c (.nm 2) (.c (.nm 3) .n))) (.call 222 (.c (.var 0) (.c (.var 1) .n))))
  (.c (.asg (.nm 4) (.call 38 (.c (.var 2) (.c (.var 3) .n))))
  (.c (.ret (.blt .tuple (.c (.lc [5] (.var 5) (.nm 5) (.range (.c (.blt .len (.c (.var 0) .n)) .n)) (.c (.cmp .inn (.var 5) (.var 4)) .n)) .n)))
  .n)))⟩
/-- 45 answers_wins(board, pairs); board 0, pairs 1, turned 2, ask 3, answer 4 -/
def f_answers_wins : Fn := ⟨5, 2,
  (.c (.asg (.nm 2) (.blt .tuple (.c (.lc [3, 4] (.tup (.c (.var 4) (.c (.var 3) .n))) (.tp (.c (.nm 3) (.c (.nm 4) .n))) (.e (.var 1)) .n) .n)))
  (.c (.ret (.call 169 (.c (.var 0) (.c (.call 83 (.c (.call 223 (.c (.var 0) .n)) (.c (.var 2) .n))) .n))))
  .n))⟩
/-- 230 winners(board, wish); board 0, wish 1, name 2, item 3, roads 4 -/
def f_winners : Fn := ⟨5, 2,
  (.c (.asg (.tp (.c (.nm 2) (.c (.nm 3) .n))) (.var 1))
  (.c (.asg (.nm 4) (.dct (.c (.lit (.str [114, 101, 97, 99, 104])) (.glb 182) (.c (.lit (.str [107, 101, 101, 112])) (.glb 106) (.c (.lit (.str [97, 103, 97, 105, 110])) (.glb 38) (.c (.lit (.str [97, 116, 108, 97, 115, 116])) (.glb 50) (.c (.lit (.str [108, 101, 118, 101, 108, 115])) (.glb 148) .n)))))))
  (.c (.exp (.mth .update (.var 4) (.c (.dct (.c (.lit (.str [97, 103, 97, 105, 110, 115])) (.glb 41) (.c (.lit (.str [112, 97, 105, 114, 115])) (.glb 83) (.c (.lit (.str [97, 110, 115, 119, 101, 114, 115])) (.glb 45) (.c (.lit (.str [116, 97, 98, 108, 101])) (.glb 216) .n))))) .n)))
  (.c (.ret (.callv (.idx (.var 4) (.var 2)) (.c (.var 0) (.c (.var 3) .n))))
  .n))))⟩
/-- 126 law_k52(script); script 0, pool 1, ins 2, outs 3, many 4, states 5, k 6, table 7, talk 8, board 9, levels 10, word 11, row 12, strategy 13, paper 14, calls 15, answers 16, now 17, seen 18, x 19, rows 20, ring 21, y 22, s 23 -/
def f_law_k52 : Fn := ⟨24, 1,
  (.c (.asg (.nm 1) (.call 1 (.c (.var 0) .n)))
  (.c (.asg (.nm 2) (.bin .add (.lit (.int 1)) (.call 0 (.c (.var 1) (.c (.lit (.int 3)) .n)))))
  (.c (.asg (.nm 3) (.bin .add (.lit (.int 1)) (.call 0 (.c (.var 1) (.c (.lit (.int 3)) .n)))))
  (.c (.asg (.nm 4) (.idx (.tup (.c (.bin .add (.lit (.int 1)) (.call 0 (.c (.var 1) (.c (.lit (.int 4)) .n)))) (.c (.bin .add (.lit (.int 1)) (.call 0 (.c (.var 1) (.c (.lit (.int 2)) .n)))) (.c (.bin .add (.lit (.int 1)) (.call 0 (.c (.var 1) (.c (.lit (.int 2)) .n)))) .n)))) (.bin .sub (.var 2) (.lit (.int 1)))))
  (.c (.asg (.nm 5) (.tup .n))
  (.c (.for (.nm 6) (.range (.c (.var 4) .n)) (.c (.asg (.nm 7) (.blt .tuple (.c (.lc [19] (.blt .tuple (.c (.lc [22] (.call 0 (.c (.var 1) (.c (.var 4) .n))) (.nm 22) (.range (.c (.var 3) .n)) .n) .n)) (.nm 19) (.range (.c (.var 2) .n)) .n) .n)))
   (.c (.asg (.nm 5) (.bin .add (.var 5) (.tup (.c (.tup (.c (.call 0 (.c (.var 1) (.c (.lit (.int 5)) .n))) (.c (.var 7) .n))) .n))))
   .n)))
  (.c (.asg (.nm 8) (.tup (.c (.var 2) (.c (.var 3) (.c (.var 5) .n)))))
  (.c (.asg (.tp (.c (.nm 9) (.c (.nm 10) .n))) (.call 217 (.c (.var 8) .n)))
  (.c (.iff (.not (.call 86 (.c (.var 9) .n))) (.c (.ret (.lit (.bl false)))
   .n) .n)
  (.c (.asg (.tp (.c (.nm 11) (.c (.nm 12) .n))) (.call 218 (.c (.var 8) .n)))
  (.c (.iff (.or (.cmp .ne (.cmp .inn (.lit (.int 0)) (.call 230 (.c (.var 9) (.c (.tup (.c (.lit (.str [108, 101, 118, 101, 108, 115])) (.c (.var 10) .n))) .n)))) (.cmp .eq (.var 11) (.lit (.str [114, 101, 115, 112, 111, 110, 100, 101, 114])))) (.not (.call 58 (.c (.var 8) (.c (.tup (.c (.var 11) (.c (.var 12) .n))) .n))))) (.c (.ret (.lit (.bl false)))
   .n) .n)
  (.c (.iff (.cmp .eq (.var 11) (.lit (.str [114, 101, 115, 112, 111, 110, 100, 101, 114]))) (.c (.asg (.nm 13) (.bin .mul (.tup (.c (.lit .non) .n)) (.var 4)))
   (.c (.for (.nm 6) (.range (.c (.var 4) .n)) (.c (.asg (.nm 13) (.bin .add (.var 13) (.blt .tuple (.c (.lc [19] (.idx (.idx (.idx (.idx (.var 5) (.var 6)) (.lit (.int 1))) (.var 19)) (.idx (.idx (.var 12) (.var 6)) (.var 19))) (.nm 19) (.range (.c (.var 2) .n)) .n) .n))))
    .n))
   (.c (.asg (.nm 14) (.tup (.c (.lit (.str [109, 97, 107, 101, 114])) (.c (.var 13) .n))))
   .n))) (.c (.asg (.nm 13) (.bin .add (.blt .tuple (.c (.lc [6] (.bin .add (.bin .add (.var 4) (.bin .mul (.var 6) (.var 2))) (.idx (.var 12) (.var 6))) (.nm 6) (.range (.c (.var 4) .n)) .n) .n)) (.bin .mul (.tup (.c (.lit .non) .n)) (.bin .mul (.var 4) (.var 2)))))
   (.c (.asg (.nm 14) (.tup (.c (.lit (.str [115, 112, 111, 105, 108, 101, 114])) (.c (.var 13) .n))))
   .n)))
  (.c (.iff (.not (.call 57 (.c (.var 9) (.c (.var 10) (.c (.lit (.int 0)) (.c (.var 14) .n)))))) (.c (.ret (.lit (.bl false)))
   .n) .n)
  (.c (.iff (.cmp .eq (.var 11) (.lit (.str [114, 101, 102, 117, 115, 101, 114]))) (.c (.ret (.cmp .eq (.blt .len (.c (.call 142 (.c (.var 9) (.c (.lit (.int 1)) (.c (.var 13) .n)))) .n)) (.blt .len (.c (.var 9) .n))))
   .n) .n)
  (.c (.asg (.nm 15) (.blt .tuple (.c (.lc [6] (.call 0 (.c (.var 1) (.c (.var 2) .n))) (.nm 6) (.range (.c (.lit (.int 3)) .n)) .n) .n)))
  (.c (.asg (.nm 16) (.call 44 (.c (.var 12) (.c (.var 8) (.c (.bin .mul (.var 15) (.bin .add (.bin .mul (.var 4) (.lit (.int 3))) (.lit (.int 1)))) .n)))))
  (.c (.asg (.nm 17) (.lit (.int 0)))
  (.c (.asg (.nm 18) (.lst .n))
  (.c (.for (.nm 6) (.range (.c (.blt .len (.c (.var 16) .n)) .n)) (.c (.asg (.nm 19) (.idx (.var 15) (.bin .mod (.blt .int (.c (.var 6) .n)) (.lit (.int 3)))))
   (.c (.exp (.mth .append (.var 18) (.c (.var 17) .n)))
   (.c (.asg (.nm 17) (.idx (.idx (.idx (.idx (.var 5) (.var 17)) (.lit (.int 1))) (.var 19)) (.idx (.var 16) (.var 6))))
   .n))))
  (.c (.asg (.nm 20) (.lst .n))
  (.c (.for (.nm 6) (.range (.c (.lit (.int 0)) (.c (.bin .sub (.blt .len (.c (.var 18) .n)) (.lit (.int 3))) (.c (.lit (.int 3)) .n)))) (.c (.exp (.mth .append (.var 20) (.c (.idx (.var 18) (.var 6)) .n)))
   .n))
  (.c (.asg (.nm 21) (.lit .non))
  (.c (.for (.nm 6) (.range (.c (.blt .len (.c (.var 20) .n)) .n)) (.c (.iff (.and (.cmp .isN (.var 21) (.lit .non)) (.cmp .inn (.idx (.var 20) (.var 6)) (.slc (.var 20) .noPart (.var 6)))) (.c (.asg (.nm 21) (.slc (.var 18) (.bin .mul (.lit (.int 3)) (.mth .index (.var 20) (.c (.idx (.var 20) (.var 6)) .n))) (.bin .mul (.lit (.int 3)) (.var 6))))
    .n) .n)
   .n))
  (.c (.ret (.and (.cmp .notN (.var 21) (.lit .non)) (.cmp .eq (.bin .mod (.blt .int (.c (.blt .max (.c (.lc [23] (.idx (.idx (.var 5) (.var 23)) (.lit (.int 0))) (.nm 23) (.e (.var 21)) .n) .n)) .n)) (.lit (.int 2))) (.lit (.int 0)))))
  .n))))))))))))))))))))))))⟩
end Wg
set_option maxHeartbeats 0
/-! the head of this law -/
namespace WgHead
open PySem PySem.Spec PyProof.Rows L2 WgS
open Wg (D Ex Exs Sts)
abbrev PG : PySem.Program := PySem.Challenge.pw_wishgames_k52_whole_talks_as_games
def top (i : Nat) : Stmt := PySem.Challenge.pw_wishgames_k52_whole_talks_as_games.main.body.getD i (.Pass ⟨0, 0, 0, 0⟩)
abbrev s_is_whole : Stmt := top 1
abbrev s_is_named : Stmt := top 2
abbrev s_is_places : Stmt := top 3
abbrev s_is_board : Stmt := top 9
abbrev s_turned_board : Stmt := top 10
abbrev s_is_strategy : Stmt := top 11
abbrev s_need_strategy : Stmt := top 12
abbrev s_left_by : Stmt := top 13
abbrev s_drawing_steps : Stmt := top 14
abbrev s_drawn_in : Stmt := top 15
abbrev s_reached_from : Stmt := top 16
abbrev s_within : Stmt := top 18
abbrev s_drawn_within : Stmt := top 19
abbrev s_solved_levels : Stmt := top 20
abbrev s_ways_within : Stmt := top 21
abbrev s_level_wins : Stmt := top 22
abbrev s_level_strategies : Stmt := top 23
abbrev s_has_ring_of : Stmt := top 24
abbrev s_holds_levels : Stmt := top 25
abbrev s_check_levels : Stmt := top 26
abbrev s_talk_board : Stmt := top 28
abbrev s_talk_paper : Stmt := top 29
abbrev s_left_by_responder : Stmt := top 30
abbrev s_left_by_refuser : Stmt := top 31
abbrev s_is_responder : Stmt := top 32
abbrev s_is_refuser : Stmt := top 33
abbrev s_check_talk : Stmt := top 34
abbrev s_answers_to : Stmt := top 35
abbrev s_meet : Stmt := top 37
abbrev s_good_set : Stmt := top 38
abbrev s_other_spots : Stmt := top 39
abbrev s_one_move : Stmt := top 41
abbrev s_comes_again : Stmt := top 42
abbrev s_again_rounds : Stmt := top 43
abbrev s_again_wins : Stmt := top 44
abbrev s_atlast_wins : Stmt := top 45
abbrev s_reach_wins : Stmt := top 47
abbrev s_keep_wins : Stmt := top 48
abbrev s_pairs_after : Stmt := top 50
abbrev s_index_wins : Stmt := top 51
abbrev s_solved_sets : Stmt := top 53
abbrev s_lasting_wins : Stmt := top 54
abbrev s_table_wins : Stmt := top 55
abbrev s_turn_board : Stmt := top 57
abbrev s_agains_wins : Stmt := top 58
abbrev s_answers_wins : Stmt := top 60
abbrev s_winners : Stmt := top 61
abbrev s_law_pool : Stmt := top 63
abbrev s_law_spread : Stmt := top 64
abbrev s_law_draw : Stmt := top 65
abbrev s_law : Stmt := top 66
def tabF (f : Nat) : Option Str := match f with
  | 0 => some "_law_draw"
  | 1 => some "_law_pool"
  | 2 => some "_law_spread"
  | 36 => some "again_rounds"
  | 38 => some "again_wins"
  | 41 => some "agains_wins"
  | 44 => some "answers_to"
  | 45 => some "answers_wins"
  | 50 => some "atlast_wins"
  | 57 => some "check_levels"
  | 58 => some "check_talk"
  | 63 => some "comes_again"
  | 65 => some "drawing_steps"
  | 67 => some "drawn_in"
  | 68 => some "drawn_within"
  | 78 => some "good_set"
  | 80 => some "has_ring_of"
  | 81 => some "holds_levels"
  | 83 => some "index_wins"
  | 86 => some "is_board"
  | 93 => some "is_named"
  | 95 => some "is_places"
  | 97 => some "is_refuser"
  | 98 => some "is_responder"
  | 100 => some "is_strategy"
  | 104 => some "is_whole"
  | 106 => some "keep_wins"
  | 109 => some "lasting_wins"
  | 142 => some "left_by"
  | 143 => some "left_by_refuser"
  | 144 => some "left_by_responder"
  | 147 => some "level_strategies"
  | 148 => some "level_wins"
  | 160 => some "meet"
  | 163 => some "need_strategy"
  | 168 => some "one_move"
  | 169 => some "other_spots"
  | 170 => some "pairs_after"
  | 182 => some "reach_wins"
  | 183 => some "reached_from"
  | 201 => some "solved_levels"
  | 203 => some "solved_sets"
  | 216 => some "table_wins"
  | 217 => some "talk_board"
  | 218 => some "talk_paper"
  | 222 => some "turn_board"
  | 223 => some "turned_board"
  | 227 => some "ways_within"
  | 230 => some "winners"
  | 233 => some "within"
  | _ => none
def conF (g : Nat) : Option Str := match g with
  | 38 => some "again_wins"
  | 41 => some "agains_wins"
  | 45 => some "answers_wins"
  | 50 => some "atlast_wins"
  | 83 => some "index_wins"
  | 106 => some "keep_wins"
  | 148 => some "level_wins"
  | 182 => some "reach_wins"
  | 216 => some "table_wins"
  | 402 => some "MOST_SPOTS"
  | _ => none
def conG (g : Nat) : Option D := match g with
  | 38 => some (.fn 38 [])
  | 41 => some (.fn 41 [])
  | 45 => some (.fn 45 [])
  | 50 => some (.fn 50 [])
  | 83 => some (.fn 83 [])
  | 106 => some (.fn 106 [])
  | 148 => some (.fn 148 [])
  | 182 => some (.fn 182 [])
  | 216 => some (.fn 216 [])
  | 402 => some (.int 8)
  | _ => none
def T : Tab := ⟨tabF, conF, fun _ => false, true⟩
def fvT (K : PySem.W.Frag) (f : Nat) : Option Addr := match f with
  | 38 => some (He.ga K "again_wins")
  | 41 => some (He.ga K "agains_wins")
  | 45 => some (He.ga K "answers_wins")
  | 50 => some (He.ga K "atlast_wins")
  | 83 => some (He.ga K "index_wins")
  | 106 => some (He.ga K "keep_wins")
  | 148 => some (He.ga K "level_wins")
  | 182 => some (He.ga K "reach_wins")
  | 216 => some (He.ga K "table_wins")
  | _ => none
def fns (f : Nat) : Option Wg.Fn := match f with
  | 1 => some Wg.f_law_pool
  | 2 => some Wg.f_law_spread
  | 36 => some Wg.f_again_rounds
  | 38 => some Wg.f_again_wins
  | 41 => some Wg.f_agains_wins
  | 44 => some Wg.f_answers_to
  | 45 => some Wg.f_answers_wins
  | 50 => some Wg.f_atlast_wins
  | 57 => some Wg.f_check_levels
  | 58 => some Wg.f_check_talk
  | 63 => some Wg.f_comes_again
  | 65 => some Wg.f_drawing_steps
  | 67 => some Wg.f_drawn_in
  | 68 => some Wg.f_drawn_within
  | 78 => some Wg.f_good_set
  | 80 => some Wg.f_has_ring_of
  | 81 => some Wg.f_holds_levels
  | 83 => some Wg.f_index_wins
  | 86 => some Wg.f_is_board
  | 93 => some Wg.f_is_named
  | 95 => some Wg.f_is_places
  | 97 => some Wg.f_is_refuser
  | 98 => some Wg.f_is_responder
  | 100 => some Wg.f_is_strategy
  | 104 => some Wg.f_is_whole
  | 106 => some Wg.f_keep_wins
  | 109 => some Wg.f_lasting_wins
  | 142 => some Wg.f_left_by
  | 143 => some Wg.f_left_by_refuser
  | 144 => some Wg.f_left_by_responder
  | 147 => some Wg.f_level_strategies
  | 148 => some Wg.f_level_wins
  | 160 => some Wg.f_meet
  | 163 => some Wg.f_need_strategy
  | 168 => some Wg.f_one_move
  | 169 => some Wg.f_other_spots
  | 170 => some Wg.f_pairs_after
  | 182 => some Wg.f_reach_wins
  | 183 => some Wg.f_reached_from
  | 201 => some Wg.f_solved_levels
  | 203 => some Wg.f_solved_sets
  | 216 => some Wg.f_table_wins
  | 217 => some Wg.f_talk_board
  | 218 => some Wg.f_talk_paper
  | 222 => some Wg.f_turn_board
  | 223 => some Wg.f_turned_board
  | 227 => some Wg.f_ways_within
  | 230 => some Wg.f_winners
  | 233 => some Wg.f_within
  | _ => none
def Pg : Wg.Prog := ⟨conG, fns⟩
def d_is_whole : He.DefD := ⟨("is_whole", none), "is_whole", "is_whole", defArgs s_is_whole, defBody s_is_whole, defScope s_is_whole, [], []⟩
def d_is_named : He.DefD := ⟨("is_named", none), "is_named", "is_named", defArgs s_is_named, defBody s_is_named, defScope s_is_named, [], []⟩
def d_is_places : He.DefD := ⟨("is_places", none), "is_places", "is_places", defArgs s_is_places, defBody s_is_places, defScope s_is_places, [], []⟩
def d_is_board : He.DefD := ⟨("is_board", none), "is_board", "is_board", defArgs s_is_board, defBody s_is_board, defScope s_is_board, [], []⟩
def d_turned_board : He.DefD := ⟨("turned_board", none), "turned_board", "turned_board", defArgs s_turned_board, defBody s_turned_board, defScope s_turned_board, [], []⟩
def d_is_strategy : He.DefD := ⟨("is_strategy", none), "is_strategy", "is_strategy", defArgs s_is_strategy, defBody s_is_strategy, defScope s_is_strategy, [], []⟩
def d_need_strategy : He.DefD := ⟨("need_strategy", none), "need_strategy", "need_strategy", defArgs s_need_strategy, defBody s_need_strategy, defScope s_need_strategy, [], []⟩
def d_left_by : He.DefD := ⟨("left_by", none), "left_by", "left_by", defArgs s_left_by, defBody s_left_by, defScope s_left_by, [], []⟩
def d_drawing_steps : He.DefD := ⟨("drawing_steps", none), "drawing_steps", "drawing_steps", defArgs s_drawing_steps, defBody s_drawing_steps, defScope s_drawing_steps, [], []⟩
def d_drawn_in : He.DefD := ⟨("drawn_in", none), "drawn_in", "drawn_in", defArgs s_drawn_in, defBody s_drawn_in, defScope s_drawn_in, [], []⟩
def d_reached_from : He.DefD := ⟨("reached_from", none), "reached_from", "reached_from", defArgs s_reached_from, defBody s_reached_from, defScope s_reached_from, [], []⟩
def d_within : He.DefD := ⟨("within", none), "within", "within", defArgs s_within, defBody s_within, defScope s_within, [], []⟩
def d_drawn_within : He.DefD := ⟨("drawn_within", none), "drawn_within", "drawn_within", defArgs s_drawn_within, defBody s_drawn_within, defScope s_drawn_within, [], []⟩
def d_solved_levels : He.DefD := ⟨("solved_levels", none), "solved_levels", "solved_levels", defArgs s_solved_levels, defBody s_solved_levels, defScope s_solved_levels, [], []⟩
def d_ways_within : He.DefD := ⟨("ways_within", none), "ways_within", "ways_within", defArgs s_ways_within, defBody s_ways_within, defScope s_ways_within, [], []⟩
def d_level_wins : He.DefD := ⟨("level_wins", none), "level_wins", "level_wins", defArgs s_level_wins, defBody s_level_wins, defScope s_level_wins, [], []⟩
def d_level_strategies : He.DefD := ⟨("level_strategies", none), "level_strategies", "level_strategies", defArgs s_level_strategies, defBody s_level_strategies, defScope s_level_strategies, [], []⟩
def d_has_ring_of : He.DefD := ⟨("has_ring_of", none), "has_ring_of", "has_ring_of", defArgs s_has_ring_of, defBody s_has_ring_of, defScope s_has_ring_of, [], []⟩
def d_holds_levels : He.DefD := ⟨("holds_levels", none), "holds_levels", "holds_levels", defArgs s_holds_levels, defBody s_holds_levels, defScope s_holds_levels, [], []⟩
def d_check_levels : He.DefD := ⟨("check_levels", none), "check_levels", "check_levels", defArgs s_check_levels, defBody s_check_levels, defScope s_check_levels, [], []⟩
def d_talk_board : He.DefD := ⟨("talk_board", none), "talk_board", "talk_board", defArgs s_talk_board, defBody s_talk_board, defScope s_talk_board, [], []⟩
def d_talk_paper : He.DefD := ⟨("talk_paper", none), "talk_paper", "talk_paper", defArgs s_talk_paper, defBody s_talk_paper, defScope s_talk_paper, [], []⟩
def d_left_by_responder : He.DefD := ⟨("left_by_responder", none), "left_by_responder", "left_by_responder", defArgs s_left_by_responder, defBody s_left_by_responder, defScope s_left_by_responder, [], []⟩
def d_left_by_refuser : He.DefD := ⟨("left_by_refuser", none), "left_by_refuser", "left_by_refuser", defArgs s_left_by_refuser, defBody s_left_by_refuser, defScope s_left_by_refuser, [], []⟩
def d_is_responder : He.DefD := ⟨("is_responder", none), "is_responder", "is_responder", defArgs s_is_responder, defBody s_is_responder, defScope s_is_responder, [], []⟩
def d_is_refuser : He.DefD := ⟨("is_refuser", none), "is_refuser", "is_refuser", defArgs s_is_refuser, defBody s_is_refuser, defScope s_is_refuser, [], []⟩
def d_check_talk : He.DefD := ⟨("check_talk", none), "check_talk", "check_talk", defArgs s_check_talk, defBody s_check_talk, defScope s_check_talk, [], []⟩
def d_answers_to : He.DefD := ⟨("answers_to", none), "answers_to", "answers_to", defArgs s_answers_to, defBody s_answers_to, defScope s_answers_to, [], []⟩
def d_meet : He.DefD := ⟨("meet", none), "meet", "meet", defArgs s_meet, defBody s_meet, defScope s_meet, [], []⟩
def d_good_set : He.DefD := ⟨("good_set", none), "good_set", "good_set", defArgs s_good_set, defBody s_good_set, defScope s_good_set, [], []⟩
def d_other_spots : He.DefD := ⟨("other_spots", none), "other_spots", "other_spots", defArgs s_other_spots, defBody s_other_spots, defScope s_other_spots, [], []⟩
def d_one_move : He.DefD := ⟨("one_move", none), "one_move", "one_move", defArgs s_one_move, defBody s_one_move, defScope s_one_move, [], []⟩
def d_comes_again : He.DefD := ⟨("comes_again", none), "comes_again", "comes_again", defArgs s_comes_again, defBody s_comes_again, defScope s_comes_again, [], []⟩
def d_again_rounds : He.DefD := ⟨("again_rounds", none), "again_rounds", "again_rounds", defArgs s_again_rounds, defBody s_again_rounds, defScope s_again_rounds, [], []⟩
def d_again_wins : He.DefD := ⟨("again_wins", none), "again_wins", "again_wins", defArgs s_again_wins, defBody s_again_wins, defScope s_again_wins, [], []⟩
def d_atlast_wins : He.DefD := ⟨("atlast_wins", none), "atlast_wins", "atlast_wins", defArgs s_atlast_wins, defBody s_atlast_wins, defScope s_atlast_wins, [], []⟩
def d_reach_wins : He.DefD := ⟨("reach_wins", none), "reach_wins", "reach_wins", defArgs s_reach_wins, defBody s_reach_wins, defScope s_reach_wins, [], []⟩
def d_keep_wins : He.DefD := ⟨("keep_wins", none), "keep_wins", "keep_wins", defArgs s_keep_wins, defBody s_keep_wins, defScope s_keep_wins, [], []⟩
def d_pairs_after : He.DefD := ⟨("pairs_after", none), "pairs_after", "pairs_after", defArgs s_pairs_after, defBody s_pairs_after, defScope s_pairs_after, [], []⟩
def d_index_wins : He.DefD := ⟨("index_wins", none), "index_wins", "index_wins", defArgs s_index_wins, defBody s_index_wins, defScope s_index_wins, [], []⟩
def d_solved_sets : He.DefD := ⟨("solved_sets", none), "solved_sets", "solved_sets", defArgs s_solved_sets, defBody s_solved_sets, defScope s_solved_sets, [], []⟩
def d_lasting_wins : He.DefD := ⟨("lasting_wins", none), "lasting_wins", "lasting_wins", defArgs s_lasting_wins, defBody s_lasting_wins, defScope s_lasting_wins, [], []⟩
def d_table_wins : He.DefD := ⟨("table_wins", none), "table_wins", "table_wins", defArgs s_table_wins, defBody s_table_wins, defScope s_table_wins, [], []⟩
def d_turn_board : He.DefD := ⟨("turn_board", none), "turn_board", "turn_board", defArgs s_turn_board, defBody s_turn_board, defScope s_turn_board, [], []⟩
def d_agains_wins : He.DefD := ⟨("agains_wins", none), "agains_wins", "agains_wins", defArgs s_agains_wins, defBody s_agains_wins, defScope s_agains_wins, [], []⟩
def d_answers_wins : He.DefD := ⟨("answers_wins", none), "answers_wins", "answers_wins", defArgs s_answers_wins, defBody s_answers_wins, defScope s_answers_wins, [], []⟩
def d_winners : He.DefD := ⟨("winners", none), "winners", "winners", defArgs s_winners, defBody s_winners, defScope s_winners, [], []⟩
def d_law_pool : He.DefD := ⟨("_law_pool", none), "_law_pool", "_law_pool", defArgs s_law_pool, defBody s_law_pool, defScope s_law_pool, [], []⟩
def d_law_spread : He.DefD := ⟨("_law_spread", none), "_law_spread", "_law_spread", defArgs s_law_spread, defBody s_law_spread, defScope s_law_spread, [], []⟩
def d_law_draw : He.DefD := ⟨("_law_draw", none), "_law_draw", "_law_draw", defArgs s_law_draw, defBody s_law_draw, defScope s_law_draw, [], []⟩
def d_law : He.DefD := ⟨("law", none), "law", "law", defArgs s_law, defBody s_law, defScope s_law, [], []⟩
def fn : List He.DefD := [d_is_whole, d_is_named, d_is_places, d_is_board, d_turned_board, d_is_strategy, d_need_strategy, d_left_by, d_drawing_steps, d_drawn_in, d_reached_from, d_within, d_drawn_within, d_solved_levels, d_ways_within, d_level_wins, d_level_strategies, d_has_ring_of, d_holds_levels, d_check_levels, d_talk_board, d_talk_paper, d_left_by_responder, d_left_by_refuser, d_is_responder, d_is_refuser, d_check_talk, d_answers_to, d_meet, d_good_set, d_other_spots, d_one_move, d_comes_again, d_again_rounds, d_again_wins, d_atlast_wins, d_reach_wins, d_keep_wins, d_pairs_after, d_index_wins, d_solved_sets, d_lasting_wins, d_table_wins, d_turn_board, d_agains_wins, d_answers_wins, d_winners, d_law_pool, d_law_spread, d_law_draw, d_law]
def fa : List He.Fa := [.glo "is_whole", .glo "is_named", .glo "is_places", .glo "is_board", .glo "turned_board", .glo "is_strategy", .glo "need_strategy", .glo "left_by", .glo "drawing_steps", .glo "drawn_in", .glo "reached_from", .glo "within", .glo "drawn_within", .glo "solved_levels", .glo "ways_within", .glo "level_wins", .glo "level_strategies", .glo "has_ring_of", .glo "holds_levels", .glo "check_levels", .glo "talk_board", .glo "talk_paper", .glo "left_by_responder", .glo "left_by_refuser", .glo "is_responder", .glo "is_refuser", .glo "check_talk", .glo "answers_to", .glo "meet", .glo "good_set", .glo "other_spots", .glo "one_move", .glo "comes_again", .glo "again_rounds", .glo "again_wins", .glo "atlast_wins", .glo "reach_wins", .glo "keep_wins", .glo "pairs_after", .glo "index_wins", .glo "solved_sets", .glo "lasting_wins", .glo "table_wins", .glo "turn_board", .glo "agains_wins", .glo "answers_wins", .glo "winners", .glo "_law_pool", .glo "_law_spread", .glo "_law_draw", .glo "law", .free "len", .free "tuple", .free "list", .free "sorted", .free "min", .free "max", .free "sum", .free "abs", .free "int", .free "all", .free "any", .free "range", .free "zip", .free "set", .free "isinstance", .free "bool", .free "str", .int "MOST_SPOTS" 8]
abbrev R : PySem.W.OpenRow := PySem.W.OpenLaw.row PySem.Challenge.rw_wishgames_k52_whole_talks_as_games
abbrev hk : PySem.W.Hook := He.hookD 4 fa fn
def ob (s : PySem.W.SharedT) : He.AlD := He.obsDG 4 fa fn (HandSHeadRun.getT s)
theorem ob_eq (s : PySem.W.SharedT) : ob s = hk.obs s.abs := He.obsDG_eq (HandSHeadRun.getT_eq s)
abbrev loose : List PySem.Str := (["is_whole", "is_named", "is_places", "is_board", "turned_board", "is_strategy", "need_strategy", "left_by", "drawing_steps", "drawn_in", "reached_from", "within", "drawn_within", "solved_levels", "ways_within", "level_wins", "level_strategies", "has_ring_of", "holds_levels", "check_levels", "talk_board", "talk_paper", "left_by_responder", "left_by_refuser", "is_responder", "is_refuser", "check_talk", "answers_to", "meet", "good_set"] : List PySem.Str) ++ (["other_spots", "one_move", "comes_again", "again_rounds", "again_wins", "atlast_wins", "reach_wins", "keep_wins", "pairs_after", "index_wins", "solved_sets", "lasting_wins", "table_wins", "turn_board", "agains_wins", "answers_wins", "winners", "_law_pool", "_law_spread", "_law_draw", "MOST_SPOTS", "GameError", "NoStrategy"] : List PySem.Str)
theorem run (w : World) : HandSHeadRun.RunEq R (PySem.W.view R.prog [66]) hk ob 3600 loose w := by
  intro os
  kernel_rfl
theorem c_is_whole : chkSs T (["value"] : List Str) (defScope s_is_whole) Wg.f_is_whole.body (defBody s_is_whole) = true := by kernel_rfl
theorem w_is_whole {tb : Tab} {K : PySem.W.Frag} {mg : Str → Option Value} {f : Addr} {fd : FuncData} (F : FunD K "is_whole" "is_whole" (defArgs s_is_whole) (defBody s_is_whole) (defScope s_is_whole) [] [] f fd) (hm : mg "is_whole" = some (.ref f)) (hc : chkSs tb (["value"] : List Str) (defScope s_is_whole) Wg.f_is_whole.body (defBody s_is_whole) = true) : DefW tb K mg "is_whole" Wg.f_is_whole :=
  defW_of F hm (C8.fnScope_by (N := ["value"]) (P := ["value"]) (by kernel_rfl)) (F.bindsN fun _ _ _ _ _ _ us hl => match us, hl with | [_], _ => rfl) rfl rfl hc
theorem c_is_named : chkSs T (["value", "name", "many"] : List Str) (defScope s_is_named) Wg.f_is_named.body (defBody s_is_named) = true := by kernel_rfl
theorem w_is_named {tb : Tab} {K : PySem.W.Frag} {mg : Str → Option Value} {f : Addr} {fd : FuncData} (F : FunD K "is_named" "is_named" (defArgs s_is_named) (defBody s_is_named) (defScope s_is_named) [] [] f fd) (hm : mg "is_named" = some (.ref f)) (hc : chkSs tb (["value", "name", "many"] : List Str) (defScope s_is_named) Wg.f_is_named.body (defBody s_is_named) = true) : DefW tb K mg "is_named" Wg.f_is_named :=
  defW_of F hm (C8.fnScope_by (N := ["value", "name", "many"]) (P := ["value", "name", "many"]) (by kernel_rfl)) (F.bindsN fun _ _ _ _ _ _ us hl => match us, hl with | [_, _, _], _ => rfl) rfl rfl hc
theorem c_is_places : chkSs T (["value", "many", "item", "k"] : List Str) (defScope s_is_places) Wg.f_is_places.body (defBody s_is_places) = true := by kernel_rfl
theorem w_is_places {tb : Tab} {K : PySem.W.Frag} {mg : Str → Option Value} {f : Addr} {fd : FuncData} (F : FunD K "is_places" "is_places" (defArgs s_is_places) (defBody s_is_places) (defScope s_is_places) [] [] f fd) (hm : mg "is_places" = some (.ref f)) (hc : chkSs tb (["value", "many", "item", "k"] : List Str) (defScope s_is_places) Wg.f_is_places.body (defBody s_is_places) = true) : DefW tb K mg "is_places" Wg.f_is_places :=
  defW_of F hm (C8.fnScope_by (N := ["value", "many", "item", "k"]) (P := ["value", "many"]) (by kernel_rfl)) (F.bindsN fun _ _ _ _ _ _ us hl => match us, hl with | [_, _], _ => rfl) rfl rfl hc
theorem c_is_board : chkSs T (["value", "spot"] : List Str) (defScope s_is_board) Wg.f_is_board.body (defBody s_is_board) = true := by kernel_rfl
theorem w_is_board {tb : Tab} {K : PySem.W.Frag} {mg : Str → Option Value} {f : Addr} {fd : FuncData} (F : FunD K "is_board" "is_board" (defArgs s_is_board) (defBody s_is_board) (defScope s_is_board) [] [] f fd) (hm : mg "is_board" = some (.ref f)) (hc : chkSs tb (["value", "spot"] : List Str) (defScope s_is_board) Wg.f_is_board.body (defBody s_is_board) = true) : DefW tb K mg "is_board" Wg.f_is_board :=
  defW_of F hm (C8.fnScope_by (N := ["value", "spot"]) (P := ["value"]) (by kernel_rfl)) (F.bindsN fun _ _ _ _ _ _ us hl => match us, hl with | [_], _ => rfl) rfl rfl hc
theorem c_turned_board : chkSs T (["board", "owner", "ways"] : List Str) (defScope s_turned_board) Wg.f_turned_board.body (defBody s_turned_board) = true := by kernel_rfl
theorem w_turned_board {tb : Tab} {K : PySem.W.Frag} {mg : Str → Option Value} {f : Addr} {fd : FuncData} (F : FunD K "turned_board" "turned_board" (defArgs s_turned_board) (defBody s_turned_board) (defScope s_turned_board) [] [] f fd) (hm : mg "turned_board" = some (.ref f)) (hc : chkSs tb (["board", "owner", "ways"] : List Str) (defScope s_turned_board) Wg.f_turned_board.body (defBody s_turned_board) = true) : DefW tb K mg "turned_board" Wg.f_turned_board :=
  defW_of F hm (C8.fnScope_by (N := ["board", "owner", "ways"]) (P := ["board"]) (by kernel_rfl)) (F.bindsN fun _ _ _ _ _ _ us hl => match us, hl with | [_], _ => rfl) rfl rfl hc
theorem c_is_strategy : chkSs T (["board", "player", "value", "owner", "ways", "item"] : List Str) (defScope s_is_strategy) Wg.f_is_strategy.body (defBody s_is_strategy) = true := by kernel_rfl
theorem w_is_strategy {tb : Tab} {K : PySem.W.Frag} {mg : Str → Option Value} {f : Addr} {fd : FuncData} (F : FunD K "is_strategy" "is_strategy" (defArgs s_is_strategy) (defBody s_is_strategy) (defScope s_is_strategy) [] [] f fd) (hm : mg "is_strategy" = some (.ref f)) (hc : chkSs tb (["board", "player", "value", "owner", "ways", "item"] : List Str) (defScope s_is_strategy) Wg.f_is_strategy.body (defBody s_is_strategy) = true) : DefW tb K mg "is_strategy" Wg.f_is_strategy :=
  defW_of F hm (C8.fnScope_by (N := ["board", "player", "value", "owner", "ways", "item"]) (P := ["board", "player", "value"]) (by kernel_rfl)) (F.bindsN fun _ _ _ _ _ _ us hl => match us, hl with | [_, _, _], _ => rfl) rfl rfl hc
theorem c_need_strategy : chkSs T (["board", "player", "strategy"] : List Str) (defScope s_need_strategy) Wg.f_need_strategy.body (defBody s_need_strategy) = true := by kernel_rfl
theorem w_need_strategy {tb : Tab} {K : PySem.W.Frag} {mg : Str → Option Value} {f : Addr} {fd : FuncData} (F : FunD K "need_strategy" "need_strategy" (defArgs s_need_strategy) (defBody s_need_strategy) (defScope s_need_strategy) [] [] f fd) (hm : mg "need_strategy" = some (.ref f)) (hc : chkSs tb (["board", "player", "strategy"] : List Str) (defScope s_need_strategy) Wg.f_need_strategy.body (defBody s_need_strategy) = true) : DefW tb K mg "need_strategy" Wg.f_need_strategy :=
  defW_of F hm (C8.fnScope_by (N := ["board", "player", "strategy"]) (P := ["board", "player", "strategy"]) (by kernel_rfl)) (F.bindsN fun _ _ _ _ _ _ us hl => match us, hl with | [_, _, _], _ => rfl) rfl rfl hc
theorem c_left_by : chkSs T (["board", "player", "strategy", "owner", "ways", "item"] : List Str) (defScope s_left_by) Wg.f_left_by.body (defBody s_left_by) = true := by kernel_rfl
theorem w_left_by {tb : Tab} {K : PySem.W.Frag} {mg : Str → Option Value} {f : Addr} {fd : FuncData} (F : FunD K "left_by" "left_by" (defArgs s_left_by) (defBody s_left_by) (defScope s_left_by) [] [] f fd) (hm : mg "left_by" = some (.ref f)) (hc : chkSs tb (["board", "player", "strategy", "owner", "ways", "item"] : List Str) (defScope s_left_by) Wg.f_left_by.body (defBody s_left_by) = true) : DefW tb K mg "left_by" Wg.f_left_by :=
  defW_of F hm (C8.fnScope_by (N := ["board", "player", "strategy", "owner", "ways", "item"]) (P := ["board", "player", "strategy"]) (by kernel_rfl)) (F.bindsN fun _ _ _ _ _ _ us hl => match us, hl with | [_, _, _], _ => rfl) rfl rfl hc
theorem c_drawing_steps : chkSs T (["board", "player", "goal", "found", "step", "grown", "fresh", "spot", "known", "way"] : List Str) (defScope s_drawing_steps) Wg.f_drawing_steps.body (defBody s_drawing_steps) = true := by kernel_rfl
theorem w_drawing_steps {tb : Tab} {K : PySem.W.Frag} {mg : Str → Option Value} {f : Addr} {fd : FuncData} (F : FunD K "drawing_steps" "drawing_steps" (defArgs s_drawing_steps) (defBody s_drawing_steps) (defScope s_drawing_steps) [] [] f fd) (hm : mg "drawing_steps" = some (.ref f)) (hc : chkSs tb (["board", "player", "goal", "found", "step", "grown", "fresh", "spot", "known", "way"] : List Str) (defScope s_drawing_steps) Wg.f_drawing_steps.body (defBody s_drawing_steps) = true) : DefW tb K mg "drawing_steps" Wg.f_drawing_steps :=
  defW_of F hm (C8.fnScope_by (N := ["board", "player", "goal", "found", "step", "grown", "fresh", "spot", "known", "way"]) (P := ["board", "player", "goal"]) (by kernel_rfl)) (F.bindsN fun _ _ _ _ _ _ us hl => match us, hl with | [_, _, _], _ => rfl) rfl rfl hc
theorem c_drawn_in : chkSs T (["board", "player", "goal", "steps", "spot"] : List Str) (defScope s_drawn_in) Wg.f_drawn_in.body (defBody s_drawn_in) = true := by kernel_rfl
theorem w_drawn_in {tb : Tab} {K : PySem.W.Frag} {mg : Str → Option Value} {f : Addr} {fd : FuncData} (F : FunD K "drawn_in" "drawn_in" (defArgs s_drawn_in) (defBody s_drawn_in) (defScope s_drawn_in) [] [] f fd) (hm : mg "drawn_in" = some (.ref f)) (hc : chkSs tb (["board", "player", "goal", "steps", "spot"] : List Str) (defScope s_drawn_in) Wg.f_drawn_in.body (defBody s_drawn_in) = true) : DefW tb K mg "drawn_in" Wg.f_drawn_in :=
  defW_of F hm (C8.fnScope_by (N := ["board", "player", "goal", "steps", "spot"]) (P := ["board", "player", "goal"]) (by kernel_rfl)) (F.bindsN fun _ _ _ _ _ _ us hl => match us, hl with | [_, _, _], _ => rfl) rfl rfl hc
theorem c_reached_from : chkSs T (["board", "start", "found", "at", "way"] : List Str) (defScope s_reached_from) Wg.f_reached_from.body (defBody s_reached_from) = true := by kernel_rfl
theorem w_reached_from {tb : Tab} {K : PySem.W.Frag} {mg : Str → Option Value} {f : Addr} {fd : FuncData} (F : FunD K "reached_from" "reached_from" (defArgs s_reached_from) (defBody s_reached_from) (defScope s_reached_from) [] [] f fd) (hm : mg "reached_from" = some (.ref f)) (hc : chkSs tb (["board", "start", "found", "at", "way"] : List Str) (defScope s_reached_from) Wg.f_reached_from.body (defBody s_reached_from) = true) : DefW tb K mg "reached_from" Wg.f_reached_from :=
  defW_of F hm (C8.fnScope_by (N := ["board", "start", "found", "at", "way"]) (P := ["board", "start"]) (by kernel_rfl)) (F.bindsN fun _ _ _ _ _ _ us hl => match us, hl with | [_, _], _ => rfl) rfl rfl hc
theorem c_within : chkSs T (["board", "spots", "found", "spot", "owner", "ways", "way"] : List Str) (defScope s_within) Wg.f_within.body (defBody s_within) = true := by kernel_rfl
theorem w_within {tb : Tab} {K : PySem.W.Frag} {mg : Str → Option Value} {f : Addr} {fd : FuncData} (F : FunD K "within" "within" (defArgs s_within) (defBody s_within) (defScope s_within) [] [] f fd) (hm : mg "within" = some (.ref f)) (hc : chkSs tb (["board", "spots", "found", "spot", "owner", "ways", "way"] : List Str) (defScope s_within) Wg.f_within.body (defBody s_within) = true) : DefW tb K mg "within" Wg.f_within :=
  defW_of F hm (C8.fnScope_by (N := ["board", "spots", "found", "spot", "owner", "ways", "way"]) (P := ["board", "spots"]) (by kernel_rfl)) (F.bindsN fun _ _ _ _ _ _ us hl => match us, hl with | [_, _], _ => rfl) rfl rfl hc
theorem c_drawn_within : chkSs T (["board", "player", "goal", "spots", "part", "known", "chosen", "grown", "spot", "owner", "ways", "near", "way"] : List Str) (defScope s_drawn_within) Wg.f_drawn_within.body (defBody s_drawn_within) = true := by kernel_rfl
theorem w_drawn_within {tb : Tab} {K : PySem.W.Frag} {mg : Str → Option Value} {f : Addr} {fd : FuncData} (F : FunD K "drawn_within" "drawn_within" (defArgs s_drawn_within) (defBody s_drawn_within) (defScope s_drawn_within) [] [] f fd) (hm : mg "drawn_within" = some (.ref f)) (hc : chkSs tb (["board", "player", "goal", "spots", "part", "known", "chosen", "grown", "spot", "owner", "ways", "near", "way"] : List Str) (defScope s_drawn_within) Wg.f_drawn_within.body (defBody s_drawn_within) = true) : DefW tb K mg "drawn_within" Wg.f_drawn_within :=
  defW_of F hm (C8.fnScope_by (N := ["board", "player", "goal", "spots", "part", "known", "chosen", "grown", "spot", "owner", "ways", "near", "way"]) (P := ["board", "player", "goal", "spots"]) (by kernel_rfl)) (F.bindsN fun _ _ _ _ _ _ us hl => match us, hl with | [_, _, _, _], _ => rfl) rfl rfl hc
theorem c_solved_levels : chkSs T (["board", "levels", "spots", "owners", "chosen", "left", "top", "player", "goal", "drawn", "ways", "inner", "turns", "lost", "gone", "spot"] : List Str) (defScope s_solved_levels) Wg.f_solved_levels.body (defBody s_solved_levels) = true := by kernel_rfl
theorem w_solved_levels {tb : Tab} {K : PySem.W.Frag} {mg : Str → Option Value} {f : Addr} {fd : FuncData} (F : FunD K "solved_levels" "solved_levels" (defArgs s_solved_levels) (defBody s_solved_levels) (defScope s_solved_levels) [] [] f fd) (hm : mg "solved_levels" = some (.ref f)) (hc : chkSs tb (["board", "levels", "spots", "owners", "chosen", "left", "top", "player", "goal", "drawn", "ways", "inner", "turns", "lost", "gone", "spot"] : List Str) (defScope s_solved_levels) Wg.f_solved_levels.body (defBody s_solved_levels) = true) : DefW tb K mg "solved_levels" Wg.f_solved_levels :=
  defW_of F hm (C8.fnScope_by (N := ["board", "levels", "spots", "owners", "chosen", "left", "top", "player", "goal", "drawn", "ways", "inner", "turns", "lost", "gone", "spot"]) (P := ["board", "levels", "spots"]) (by kernel_rfl)) (F.bindsN fun _ _ _ _ _ _ us hl => match us, hl with | [_, _, _], _ => rfl) rfl rfl hc
theorem c_ways_within : chkSs T (["board", "player", "goal", "spots", "found", "spot", "way"] : List Str) (defScope s_ways_within) Wg.f_ways_within.body (defBody s_ways_within) = true := by kernel_rfl
theorem w_ways_within {tb : Tab} {K : PySem.W.Frag} {mg : Str → Option Value} {f : Addr} {fd : FuncData} (F : FunD K "ways_within" "ways_within" (defArgs s_ways_within) (defBody s_ways_within) (defScope s_ways_within) [] [] f fd) (hm : mg "ways_within" = some (.ref f)) (hc : chkSs tb (["board", "player", "goal", "spots", "found", "spot", "way"] : List Str) (defScope s_ways_within) Wg.f_ways_within.body (defBody s_ways_within) = true) : DefW tb K mg "ways_within" Wg.f_ways_within :=
  defW_of F hm (C8.fnScope_by (N := ["board", "player", "goal", "spots", "found", "spot", "way"]) (P := ["board", "player", "goal", "spots"]) (by kernel_rfl)) (F.bindsN fun _ _ _ _ _ _ us hl => match us, hl with | [_, _, _, _], _ => rfl) rfl rfl hc
theorem c_level_wins : chkSs T (["board", "levels", "owners", "spot"] : List Str) (defScope s_level_wins) Wg.f_level_wins.body (defBody s_level_wins) = true := by kernel_rfl
theorem w_level_wins {tb : Tab} {K : PySem.W.Frag} {mg : Str → Option Value} {f : Addr} {fd : FuncData} (F : FunD K "level_wins" "level_wins" (defArgs s_level_wins) (defBody s_level_wins) (defScope s_level_wins) [] [] f fd) (hm : mg "level_wins" = some (.ref f)) (hc : chkSs tb (["board", "levels", "owners", "spot"] : List Str) (defScope s_level_wins) Wg.f_level_wins.body (defBody s_level_wins) = true) : DefW tb K mg "level_wins" Wg.f_level_wins :=
  defW_of F hm (C8.fnScope_by (N := ["board", "levels", "owners", "spot"]) (P := ["board", "levels"]) (by kernel_rfl)) (F.bindsN fun _ _ _ _ _ _ us hl => match us, hl with | [_, _], _ => rfl) rfl rfl hc
theorem c_level_strategies : chkSs T (["board", "levels", "owners", "chosen", "found", "player", "strategy", "spot", "owner", "ways", "way"] : List Str) (defScope s_level_strategies) Wg.f_level_strategies.body (defBody s_level_strategies) = true := by kernel_rfl
theorem w_level_strategies {tb : Tab} {K : PySem.W.Frag} {mg : Str → Option Value} {f : Addr} {fd : FuncData} (F : FunD K "level_strategies" "level_strategies" (defArgs s_level_strategies) (defBody s_level_strategies) (defScope s_level_strategies) [] [] f fd) (hm : mg "level_strategies" = some (.ref f)) (hc : chkSs tb (["board", "levels", "owners", "chosen", "found", "player", "strategy", "spot", "owner", "ways", "way"] : List Str) (defScope s_level_strategies) Wg.f_level_strategies.body (defBody s_level_strategies) = true) : DefW tb K mg "level_strategies" Wg.f_level_strategies :=
  defW_of F hm (C8.fnScope_by (N := ["board", "levels", "owners", "chosen", "found", "player", "strategy", "spot", "owner", "ways", "way"]) (P := ["board", "levels"]) (by kernel_rfl)) (F.bindsN fun _ _ _ _ _ _ us hl => match us, hl with | [_, _], _ => rfl) rfl rfl hc
theorem c_has_ring_of : chkSs T (["left", "levels", "spots", "odd", "spot", "low", "way", "one"] : List Str) (defScope s_has_ring_of) Wg.f_has_ring_of.body (defBody s_has_ring_of) = true := by kernel_rfl
theorem w_has_ring_of {tb : Tab} {K : PySem.W.Frag} {mg : Str → Option Value} {f : Addr} {fd : FuncData} (F : FunD K "has_ring_of" "has_ring_of" (defArgs s_has_ring_of) (defBody s_has_ring_of) (defScope s_has_ring_of) [] [] f fd) (hm : mg "has_ring_of" = some (.ref f)) (hc : chkSs tb (["left", "levels", "spots", "odd", "spot", "low", "way", "one"] : List Str) (defScope s_has_ring_of) Wg.f_has_ring_of.body (defBody s_has_ring_of) = true) : DefW tb K mg "has_ring_of" Wg.f_has_ring_of :=
  defW_of F hm (C8.fnScope_by (N := ["left", "levels", "spots", "odd", "spot", "low", "way", "one"]) (P := ["left", "levels", "spots", "odd"]) (by kernel_rfl)) (F.bindsN fun _ _ _ _ _ _ us hl => match us, hl with | [_, _, _, _], _ => rfl) rfl rfl hc
theorem c_holds_levels : chkSs T (["board", "player", "strategy", "levels", "start", "left"] : List Str) (defScope s_holds_levels) Wg.f_holds_levels.body (defBody s_holds_levels) = true := by kernel_rfl
theorem w_holds_levels {tb : Tab} {K : PySem.W.Frag} {mg : Str → Option Value} {f : Addr} {fd : FuncData} (F : FunD K "holds_levels" "holds_levels" (defArgs s_holds_levels) (defBody s_holds_levels) (defScope s_holds_levels) [] [] f fd) (hm : mg "holds_levels" = some (.ref f)) (hc : chkSs tb (["board", "player", "strategy", "levels", "start", "left"] : List Str) (defScope s_holds_levels) Wg.f_holds_levels.body (defBody s_holds_levels) = true) : DefW tb K mg "holds_levels" Wg.f_holds_levels :=
  defW_of F hm (C8.fnScope_by (N := ["board", "player", "strategy", "levels", "start", "left"]) (P := ["board", "player", "strategy", "levels", "start"]) (by kernel_rfl)) (F.bindsN fun _ _ _ _ _ _ us hl => match us, hl with | [_, _, _, _, _], _ => rfl) rfl rfl hc
theorem c_check_levels : chkSs T (["board", "levels", "start", "value", "word", "player"] : List Str) (defScope s_check_levels) Wg.f_check_levels.body (defBody s_check_levels) = true := by kernel_rfl
theorem w_check_levels {tb : Tab} {K : PySem.W.Frag} {mg : Str → Option Value} {f : Addr} {fd : FuncData} (F : FunD K "check_levels" "check_levels" (defArgs s_check_levels) (defBody s_check_levels) (defScope s_check_levels) [] [] f fd) (hm : mg "check_levels" = some (.ref f)) (hc : chkSs tb (["board", "levels", "start", "value", "word", "player"] : List Str) (defScope s_check_levels) Wg.f_check_levels.body (defBody s_check_levels) = true) : DefW tb K mg "check_levels" Wg.f_check_levels :=
  defW_of F hm (C8.fnScope_by (N := ["board", "levels", "start", "value", "word", "player"]) (P := ["board", "levels", "start", "value"]) (by kernel_rfl)) (F.bindsN fun _ _ _ _ _ _ us hl => match us, hl with | [_, _, _, _], _ => rfl) rfl rfl hc
theorem c_talk_board : chkSs T (["talk", "ins", "_", "states", "many", "spots", "inner", "k", "levels", "row", "call", "level"] : List Str) (defScope s_talk_board) Wg.f_talk_board.body (defBody s_talk_board) = true := by kernel_rfl
theorem w_talk_board {tb : Tab} {K : PySem.W.Frag} {mg : Str → Option Value} {f : Addr} {fd : FuncData} (F : FunD K "talk_board" "talk_board" (defArgs s_talk_board) (defBody s_talk_board) (defScope s_talk_board) [] [] f fd) (hm : mg "talk_board" = some (.ref f)) (hc : chkSs tb (["talk", "ins", "_", "states", "many", "spots", "inner", "k", "levels", "row", "call", "level"] : List Str) (defScope s_talk_board) Wg.f_talk_board.body (defBody s_talk_board) = true) : DefW tb K mg "talk_board" Wg.f_talk_board :=
  defW_of F hm (C8.fnScope_by (N := ["talk", "ins", "_", "states", "many", "spots", "inner", "k", "levels", "row", "call", "level"]) (P := ["talk"]) (by kernel_rfl)) (F.bindsN fun _ _ _ _ _ _ us hl => match us, hl with | [_], _ => rfl) rfl rfl hc
theorem c_talk_paper : chkSs T (["talk", "ins", "_", "states", "many", "spots", "levels", "one", "two", "found", "k", "ways", "call"] : List Str) (defScope s_talk_paper) Wg.f_talk_paper.body (defBody s_talk_paper) = true := by kernel_rfl
theorem w_talk_paper {tb : Tab} {K : PySem.W.Frag} {mg : Str → Option Value} {f : Addr} {fd : FuncData} (F : FunD K "talk_paper" "talk_paper" (defArgs s_talk_paper) (defBody s_talk_paper) (defScope s_talk_paper) [] [] f fd) (hm : mg "talk_paper" = some (.ref f)) (hc : chkSs tb (["talk", "ins", "_", "states", "many", "spots", "levels", "one", "two", "found", "k", "ways", "call"] : List Str) (defScope s_talk_paper) Wg.f_talk_paper.body (defBody s_talk_paper) = true) : DefW tb K mg "talk_paper" Wg.f_talk_paper :=
  defW_of F hm (C8.fnScope_by (N := ["talk", "ins", "_", "states", "many", "spots", "levels", "one", "two", "found", "k", "ways", "call"]) (P := ["talk"]) (by kernel_rfl)) (F.bindsN fun _ _ _ _ _ _ us hl => match us, hl with | [_], _ => rfl) rfl rfl hc
theorem c_left_by_responder : chkSs T (["talk", "responder", "ins", "_", "states", "found", "k", "call"] : List Str) (defScope s_left_by_responder) Wg.f_left_by_responder.body (defBody s_left_by_responder) = true := by kernel_rfl
theorem w_left_by_responder {tb : Tab} {K : PySem.W.Frag} {mg : Str → Option Value} {f : Addr} {fd : FuncData} (F : FunD K "left_by_responder" "left_by_responder" (defArgs s_left_by_responder) (defBody s_left_by_responder) (defScope s_left_by_responder) [] [] f fd) (hm : mg "left_by_responder" = some (.ref f)) (hc : chkSs tb (["talk", "responder", "ins", "_", "states", "found", "k", "call"] : List Str) (defScope s_left_by_responder) Wg.f_left_by_responder.body (defBody s_left_by_responder) = true) : DefW tb K mg "left_by_responder" Wg.f_left_by_responder :=
  defW_of F hm (C8.fnScope_by (N := ["talk", "responder", "ins", "_", "states", "found", "k", "call"]) (P := ["talk", "responder"]) (by kernel_rfl)) (F.bindsN fun _ _ _ _ _ _ us hl => match us, hl with | [_, _], _ => rfl) rfl rfl hc
theorem c_left_by_refuser : chkSs T (["talk", "refuser", "state", "call"] : List Str) (defScope s_left_by_refuser) Wg.f_left_by_refuser.body (defBody s_left_by_refuser) = true := by kernel_rfl
theorem w_left_by_refuser {tb : Tab} {K : PySem.W.Frag} {mg : Str → Option Value} {f : Addr} {fd : FuncData} (F : FunD K "left_by_refuser" "left_by_refuser" (defArgs s_left_by_refuser) (defBody s_left_by_refuser) (defScope s_left_by_refuser) [] [] f fd) (hm : mg "left_by_refuser" = some (.ref f)) (hc : chkSs tb (["talk", "refuser", "state", "call"] : List Str) (defScope s_left_by_refuser) Wg.f_left_by_refuser.body (defBody s_left_by_refuser) = true) : DefW tb K mg "left_by_refuser" Wg.f_left_by_refuser :=
  defW_of F hm (C8.fnScope_by (N := ["talk", "refuser", "state", "call"]) (P := ["talk", "refuser"]) (by kernel_rfl)) (F.bindsN fun _ _ _ _ _ _ us hl => match us, hl with | [_, _], _ => rfl) rfl rfl hc
theorem c_is_responder : chkSs T (["talk", "value", "ins", "outs", "states", "row", "item"] : List Str) (defScope s_is_responder) Wg.f_is_responder.body (defBody s_is_responder) = true := by kernel_rfl
theorem w_is_responder {tb : Tab} {K : PySem.W.Frag} {mg : Str → Option Value} {f : Addr} {fd : FuncData} (F : FunD K "is_responder" "is_responder" (defArgs s_is_responder) (defBody s_is_responder) (defScope s_is_responder) [] [] f fd) (hm : mg "is_responder" = some (.ref f)) (hc : chkSs tb (["talk", "value", "ins", "outs", "states", "row", "item"] : List Str) (defScope s_is_responder) Wg.f_is_responder.body (defBody s_is_responder) = true) : DefW tb K mg "is_responder" Wg.f_is_responder :=
  defW_of F hm (C8.fnScope_by (N := ["talk", "value", "ins", "outs", "states", "row", "item"]) (P := ["talk", "value"]) (by kernel_rfl)) (F.bindsN fun _ _ _ _ _ _ us hl => match us, hl with | [_, _], _ => rfl) rfl rfl hc
theorem c_is_refuser : chkSs T (["talk", "value", "item"] : List Str) (defScope s_is_refuser) Wg.f_is_refuser.body (defBody s_is_refuser) = true := by kernel_rfl
theorem w_is_refuser {tb : Tab} {K : PySem.W.Frag} {mg : Str → Option Value} {f : Addr} {fd : FuncData} (F : FunD K "is_refuser" "is_refuser" (defArgs s_is_refuser) (defBody s_is_refuser) (defScope s_is_refuser) [] [] f fd) (hm : mg "is_refuser" = some (.ref f)) (hc : chkSs tb (["talk", "value", "item"] : List Str) (defScope s_is_refuser) Wg.f_is_refuser.body (defBody s_is_refuser) = true) : DefW tb K mg "is_refuser" Wg.f_is_refuser :=
  defW_of F hm (C8.fnScope_by (N := ["talk", "value", "item"]) (P := ["talk", "value"]) (by kernel_rfl)) (F.bindsN fun _ _ _ _ _ _ us hl => match us, hl with | [_, _], _ => rfl) rfl rfl hc
theorem c_check_talk : chkSs T (["talk", "value", "levels", "left", "level", "_"] : List Str) (defScope s_check_talk) Wg.f_check_talk.body (defBody s_check_talk) = true := by kernel_rfl
theorem w_check_talk {tb : Tab} {K : PySem.W.Frag} {mg : Str → Option Value} {f : Addr} {fd : FuncData} (F : FunD K "check_talk" "check_talk" (defArgs s_check_talk) (defBody s_check_talk) (defScope s_check_talk) [] [] f fd) (hm : mg "check_talk" = some (.ref f)) (hc : chkSs tb (["talk", "value", "levels", "left", "level", "_"] : List Str) (defScope s_check_talk) Wg.f_check_talk.body (defBody s_check_talk) = true) : DefW tb K mg "check_talk" Wg.f_check_talk :=
  defW_of F hm (C8.fnScope_by (N := ["talk", "value", "levels", "left", "level", "_"]) (P := ["talk", "value"]) (by kernel_rfl)) (F.bindsN fun _ _ _ _ _ _ us hl => match us, hl with | [_, _], _ => rfl) rfl rfl hc
theorem c_answers_to : chkSs T (["responder", "talk", "calls", "found", "state", "call", "answer"] : List Str) (defScope s_answers_to) Wg.f_answers_to.body (defBody s_answers_to) = true := by kernel_rfl
theorem w_answers_to {tb : Tab} {K : PySem.W.Frag} {mg : Str → Option Value} {f : Addr} {fd : FuncData} (F : FunD K "answers_to" "answers_to" (defArgs s_answers_to) (defBody s_answers_to) (defScope s_answers_to) [] [] f fd) (hm : mg "answers_to" = some (.ref f)) (hc : chkSs tb (["responder", "talk", "calls", "found", "state", "call", "answer"] : List Str) (defScope s_answers_to) Wg.f_answers_to.body (defBody s_answers_to) = true) : DefW tb K mg "answers_to" Wg.f_answers_to :=
  defW_of F hm (C8.fnScope_by (N := ["responder", "talk", "calls", "found", "state", "call", "answer"]) (P := ["responder", "talk", "calls"]) (by kernel_rfl)) (F.bindsN fun _ _ _ _ _ _ us hl => match us, hl with | [_, _, _], _ => rfl) rfl rfl hc
theorem c_meet : chkSs T (["one", "two", "spot"] : List Str) (defScope s_meet) Wg.f_meet.body (defBody s_meet) = true := by kernel_rfl
theorem w_meet {tb : Tab} {K : PySem.W.Frag} {mg : Str → Option Value} {f : Addr} {fd : FuncData} (F : FunD K "meet" "meet" (defArgs s_meet) (defBody s_meet) (defScope s_meet) [] [] f fd) (hm : mg "meet" = some (.ref f)) (hc : chkSs tb (["one", "two", "spot"] : List Str) (defScope s_meet) Wg.f_meet.body (defBody s_meet) = true) : DefW tb K mg "meet" Wg.f_meet :=
  defW_of F hm (C8.fnScope_by (N := ["one", "two", "spot"]) (P := ["one", "two"]) (by kernel_rfl)) (F.bindsN fun _ _ _ _ _ _ us hl => match us, hl with | [_, _], _ => rfl) rfl rfl hc
theorem c_good_set : chkSs T (["wish", "spots", "name", "item", "spot", "part", "bad", "good", "ask", "answer"] : List Str) (defScope s_good_set) Wg.f_good_set.body (defBody s_good_set) = true := by kernel_rfl
theorem w_good_set {tb : Tab} {K : PySem.W.Frag} {mg : Str → Option Value} {f : Addr} {fd : FuncData} (F : FunD K "good_set" "good_set" (defArgs s_good_set) (defBody s_good_set) (defScope s_good_set) [] [] f fd) (hm : mg "good_set" = some (.ref f)) (hc : chkSs tb (["wish", "spots", "name", "item", "spot", "part", "bad", "good", "ask", "answer"] : List Str) (defScope s_good_set) Wg.f_good_set.body (defBody s_good_set) = true) : DefW tb K mg "good_set" Wg.f_good_set :=
  defW_of F hm (C8.fnScope_by (N := ["wish", "spots", "name", "item", "spot", "part", "bad", "good", "ask", "answer"]) (P := ["wish", "spots"]) (by kernel_rfl)) (F.bindsN fun _ _ _ _ _ _ us hl => match us, hl with | [_, _], _ => rfl) rfl rfl hc
theorem c_other_spots : chkSs T (["board", "spots", "spot"] : List Str) (defScope s_other_spots) Wg.f_other_spots.body (defBody s_other_spots) = true := by kernel_rfl
theorem w_other_spots {tb : Tab} {K : PySem.W.Frag} {mg : Str → Option Value} {f : Addr} {fd : FuncData} (F : FunD K "other_spots" "other_spots" (defArgs s_other_spots) (defBody s_other_spots) (defScope s_other_spots) [] [] f fd) (hm : mg "other_spots" = some (.ref f)) (hc : chkSs tb (["board", "spots", "spot"] : List Str) (defScope s_other_spots) Wg.f_other_spots.body (defBody s_other_spots) = true) : DefW tb K mg "other_spots" Wg.f_other_spots :=
  defW_of F hm (C8.fnScope_by (N := ["board", "spots", "spot"]) (P := ["board", "spots"]) (by kernel_rfl)) (F.bindsN fun _ _ _ _ _ _ us hl => match us, hl with | [_, _], _ => rfl) rfl rfl hc
theorem c_one_move : chkSs T (["board", "player", "goal", "found", "spot", "known", "way"] : List Str) (defScope s_one_move) Wg.f_one_move.body (defBody s_one_move) = true := by kernel_rfl
theorem w_one_move {tb : Tab} {K : PySem.W.Frag} {mg : Str → Option Value} {f : Addr} {fd : FuncData} (F : FunD K "one_move" "one_move" (defArgs s_one_move) (defBody s_one_move) (defScope s_one_move) [] [] f fd) (hm : mg "one_move" = some (.ref f)) (hc : chkSs tb (["board", "player", "goal", "found", "spot", "known", "way"] : List Str) (defScope s_one_move) Wg.f_one_move.body (defBody s_one_move) = true) : DefW tb K mg "one_move" Wg.f_one_move :=
  defW_of F hm (C8.fnScope_by (N := ["board", "player", "goal", "found", "spot", "known", "way"]) (P := ["board", "player", "goal"]) (by kernel_rfl)) (F.bindsN fun _ _ _ _ _ _ us hl => match us, hl with | [_, _, _], _ => rfl) rfl rfl hc
theorem c_comes_again : chkSs T (["board", "player", "goal"] : List Str) (defScope s_comes_again) Wg.f_comes_again.body (defBody s_comes_again) = true := by kernel_rfl
theorem w_comes_again {tb : Tab} {K : PySem.W.Frag} {mg : Str → Option Value} {f : Addr} {fd : FuncData} (F : FunD K "comes_again" "comes_again" (defArgs s_comes_again) (defBody s_comes_again) (defScope s_comes_again) [] [] f fd) (hm : mg "comes_again" = some (.ref f)) (hc : chkSs tb (["board", "player", "goal"] : List Str) (defScope s_comes_again) Wg.f_comes_again.body (defBody s_comes_again) = true) : DefW tb K mg "comes_again" Wg.f_comes_again :=
  defW_of F hm (C8.fnScope_by (N := ["board", "player", "goal"]) (P := ["board", "player", "goal"]) (by kernel_rfl)) (F.bindsN fun _ _ _ _ _ _ us hl => match us, hl with | [_, _, _], _ => rfl) rfl rfl hc
theorem c_again_rounds : chkSs T (["board", "spots", "found", "back", "goal", "spot"] : List Str) (defScope s_again_rounds) Wg.f_again_rounds.body (defBody s_again_rounds) = true := by kernel_rfl
theorem w_again_rounds {tb : Tab} {K : PySem.W.Frag} {mg : Str → Option Value} {f : Addr} {fd : FuncData} (F : FunD K "again_rounds" "again_rounds" (defArgs s_again_rounds) (defBody s_again_rounds) (defScope s_again_rounds) [] [] f fd) (hm : mg "again_rounds" = some (.ref f)) (hc : chkSs tb (["board", "spots", "found", "back", "goal", "spot"] : List Str) (defScope s_again_rounds) Wg.f_again_rounds.body (defBody s_again_rounds) = true) : DefW tb K mg "again_rounds" Wg.f_again_rounds :=
  defW_of F hm (C8.fnScope_by (N := ["board", "spots", "found", "back", "goal", "spot"]) (P := ["board", "spots"]) (by kernel_rfl)) (F.bindsN fun _ _ _ _ _ _ us hl => match us, hl with | [_, _], _ => rfl) rfl rfl hc
theorem c_again_wins : chkSs T (["board", "spots"] : List Str) (defScope s_again_wins) Wg.f_again_wins.body (defBody s_again_wins) = true := by kernel_rfl
theorem w_again_wins {tb : Tab} {K : PySem.W.Frag} {mg : Str → Option Value} {f : Addr} {fd : FuncData} (F : FunD K "again_wins" "again_wins" (defArgs s_again_wins) (defBody s_again_wins) (defScope s_again_wins) [] [] f fd) (hm : mg "again_wins" = some (.ref f)) (hc : chkSs tb (["board", "spots"] : List Str) (defScope s_again_wins) Wg.f_again_wins.body (defBody s_again_wins) = true) : DefW tb K mg "again_wins" Wg.f_again_wins :=
  defW_of F hm (C8.fnScope_by (N := ["board", "spots"]) (P := ["board", "spots"]) (by kernel_rfl)) (F.bindsN fun _ _ _ _ _ _ us hl => match us, hl with | [_, _], _ => rfl) rfl rfl hc
theorem c_atlast_wins : chkSs T (["board", "spots"] : List Str) (defScope s_atlast_wins) Wg.f_atlast_wins.body (defBody s_atlast_wins) = true := by kernel_rfl
theorem w_atlast_wins {tb : Tab} {K : PySem.W.Frag} {mg : Str → Option Value} {f : Addr} {fd : FuncData} (F : FunD K "atlast_wins" "atlast_wins" (defArgs s_atlast_wins) (defBody s_atlast_wins) (defScope s_atlast_wins) [] [] f fd) (hm : mg "atlast_wins" = some (.ref f)) (hc : chkSs tb (["board", "spots"] : List Str) (defScope s_atlast_wins) Wg.f_atlast_wins.body (defBody s_atlast_wins) = true) : DefW tb K mg "atlast_wins" Wg.f_atlast_wins :=
  defW_of F hm (C8.fnScope_by (N := ["board", "spots"]) (P := ["board", "spots"]) (by kernel_rfl)) (F.bindsN fun _ _ _ _ _ _ us hl => match us, hl with | [_, _], _ => rfl) rfl rfl hc
theorem c_reach_wins : chkSs T (["board", "goal"] : List Str) (defScope s_reach_wins) Wg.f_reach_wins.body (defBody s_reach_wins) = true := by kernel_rfl
theorem w_reach_wins {tb : Tab} {K : PySem.W.Frag} {mg : Str → Option Value} {f : Addr} {fd : FuncData} (F : FunD K "reach_wins" "reach_wins" (defArgs s_reach_wins) (defBody s_reach_wins) (defScope s_reach_wins) [] [] f fd) (hm : mg "reach_wins" = some (.ref f)) (hc : chkSs tb (["board", "goal"] : List Str) (defScope s_reach_wins) Wg.f_reach_wins.body (defBody s_reach_wins) = true) : DefW tb K mg "reach_wins" Wg.f_reach_wins :=
  defW_of F hm (C8.fnScope_by (N := ["board", "goal"]) (P := ["board", "goal"]) (by kernel_rfl)) (F.bindsN fun _ _ _ _ _ _ us hl => match us, hl with | [_, _], _ => rfl) rfl rfl hc
theorem c_keep_wins : chkSs T (["board", "spots"] : List Str) (defScope s_keep_wins) Wg.f_keep_wins.body (defBody s_keep_wins) = true := by kernel_rfl
theorem w_keep_wins {tb : Tab} {K : PySem.W.Frag} {mg : Str → Option Value} {f : Addr} {fd : FuncData} (F : FunD K "keep_wins" "keep_wins" (defArgs s_keep_wins) (defBody s_keep_wins) (defScope s_keep_wins) [] [] f fd) (hm : mg "keep_wins" = some (.ref f)) (hc : chkSs tb (["board", "spots"] : List Str) (defScope s_keep_wins) Wg.f_keep_wins.body (defBody s_keep_wins) = true) : DefW tb K mg "keep_wins" Wg.f_keep_wins :=
  defW_of F hm (C8.fnScope_by (N := ["board", "spots"]) (P := ["board", "spots"]) (by kernel_rfl)) (F.bindsN fun _ _ _ _ _ _ us hl => match us, hl with | [_, _], _ => rfl) rfl rfl hc
theorem c_pairs_after : chkSs T (["record", "pairs", "spot", "bad", "level", "place", "k"] : List Str) (defScope s_pairs_after) Wg.f_pairs_after.body (defBody s_pairs_after) = true := by kernel_rfl
theorem w_pairs_after {tb : Tab} {K : PySem.W.Frag} {mg : Str → Option Value} {f : Addr} {fd : FuncData} (F : FunD K "pairs_after" "pairs_after" (defArgs s_pairs_after) (defBody s_pairs_after) (defScope s_pairs_after) [] [] f fd) (hm : mg "pairs_after" = some (.ref f)) (hc : chkSs tb (["record", "pairs", "spot", "bad", "level", "place", "k"] : List Str) (defScope s_pairs_after) Wg.f_pairs_after.body (defBody s_pairs_after) = true) : DefW tb K mg "pairs_after" Wg.f_pairs_after :=
  defW_of F hm (C8.fnScope_by (N := ["record", "pairs", "spot", "bad", "level", "place", "k"]) (P := ["record", "pairs", "spot"]) (by kernel_rfl)) (F.bindsN fun _ _ _ _ _ _ us hl => match us, hl with | [_, _, _], _ => rfl) rfl rfl hc
theorem c_index_wins : chkSs T (["board", "pairs", "first", "known", "waiting", "record", "spot", "way", "node", "nodes", "places", "spots", "levels", "after", "level", "wins", "k"] : List Str) (defScope s_index_wins) Wg.f_index_wins.body (defBody s_index_wins) = true := by kernel_rfl
theorem w_index_wins {tb : Tab} {K : PySem.W.Frag} {mg : Str → Option Value} {f : Addr} {fd : FuncData} (F : FunD K "index_wins" "index_wins" (defArgs s_index_wins) (defBody s_index_wins) (defScope s_index_wins) [] [] f fd) (hm : mg "index_wins" = some (.ref f)) (hc : chkSs tb (["board", "pairs", "first", "known", "waiting", "record", "spot", "way", "node", "nodes", "places", "spots", "levels", "after", "level", "wins", "k"] : List Str) (defScope s_index_wins) Wg.f_index_wins.body (defBody s_index_wins) = true) : DefW tb K mg "index_wins" Wg.f_index_wins :=
  defW_of F hm (C8.fnScope_by (N := ["board", "pairs", "first", "known", "waiting", "record", "spot", "way", "node", "nodes", "places", "spots", "levels", "after", "level", "wins", "k"]) (P := ["board", "pairs"]) (by kernel_rfl)) (F.bindsN fun _ _ _ _ _ _ us hl => match us, hl with | [_, _], _ => rfl) rfl rfl hc
theorem c_solved_sets : chkSs T (["board", "good", "spots", "owners", "left", "player", "lost", "spot", "gone", "drawn", "inner", "one"] : List Str) (defScope s_solved_sets) Wg.f_solved_sets.body (defBody s_solved_sets) = true := by kernel_rfl
theorem w_solved_sets {tb : Tab} {K : PySem.W.Frag} {mg : Str → Option Value} {f : Addr} {fd : FuncData} (F : FunD K "solved_sets" "solved_sets" (defArgs s_solved_sets) (defBody s_solved_sets) (defScope s_solved_sets) [] [] f fd) (hm : mg "solved_sets" = some (.ref f)) (hc : chkSs tb (["board", "good", "spots", "owners", "left", "player", "lost", "spot", "gone", "drawn", "inner", "one"] : List Str) (defScope s_solved_sets) Wg.f_solved_sets.body (defBody s_solved_sets) = true) : DefW tb K mg "solved_sets" Wg.f_solved_sets :=
  defW_of F hm (C8.fnScope_by (N := ["board", "good", "spots", "owners", "left", "player", "lost", "spot", "gone", "drawn", "inner", "one"]) (P := ["board", "good", "spots"]) (by kernel_rfl)) (F.bindsN fun _ _ _ _ _ _ us hl => match us, hl with | [_, _, _], _ => rfl) rfl rfl hc
theorem c_lasting_wins : chkSs T (["board", "wish", "owners", "spot"] : List Str) (defScope s_lasting_wins) Wg.f_lasting_wins.body (defBody s_lasting_wins) = true := by kernel_rfl
theorem w_lasting_wins {tb : Tab} {K : PySem.W.Frag} {mg : Str → Option Value} {f : Addr} {fd : FuncData} (F : FunD K "lasting_wins" "lasting_wins" (defArgs s_lasting_wins) (defBody s_lasting_wins) (defScope s_lasting_wins) [] [] f fd) (hm : mg "lasting_wins" = some (.ref f)) (hc : chkSs tb (["board", "wish", "owners", "spot"] : List Str) (defScope s_lasting_wins) Wg.f_lasting_wins.body (defBody s_lasting_wins) = true) : DefW tb K mg "lasting_wins" Wg.f_lasting_wins :=
  defW_of F hm (C8.fnScope_by (N := ["board", "wish", "owners", "spot"]) (P := ["board", "wish"]) (by kernel_rfl)) (F.bindsN fun _ _ _ _ _ _ us hl => match us, hl with | [_, _], _ => rfl) rfl rfl hc
theorem c_table_wins : chkSs T (["board", "sets"] : List Str) (defScope s_table_wins) Wg.f_table_wins.body (defBody s_table_wins) = true := by kernel_rfl
theorem w_table_wins {tb : Tab} {K : PySem.W.Frag} {mg : Str → Option Value} {f : Addr} {fd : FuncData} (F : FunD K "table_wins" "table_wins" (defArgs s_table_wins) (defBody s_table_wins) (defScope s_table_wins) [] [] f fd) (hm : mg "table_wins" = some (.ref f)) (hc : chkSs tb (["board", "sets"] : List Str) (defScope s_table_wins) Wg.f_table_wins.body (defBody s_table_wins) = true) : DefW tb K mg "table_wins" Wg.f_table_wins :=
  defW_of F hm (C8.fnScope_by (N := ["board", "sets"]) (P := ["board", "sets"]) (by kernel_rfl)) (F.bindsN fun _ _ _ _ _ _ us hl => match us, hl with | [_, _], _ => rfl) rfl rfl hc
theorem c_turn_board : chkSs T (["board", "sets", "many", "spots", "k", "spot", "after", "last", "way"] : List Str) (defScope s_turn_board) Wg.f_turn_board.body (defBody s_turn_board) = true := by kernel_rfl
theorem w_turn_board {tb : Tab} {K : PySem.W.Frag} {mg : Str → Option Value} {f : Addr} {fd : FuncData} (F : FunD K "turn_board" "turn_board" (defArgs s_turn_board) (defBody s_turn_board) (defScope s_turn_board) [] [] f fd) (hm : mg "turn_board" = some (.ref f)) (hc : chkSs tb (["board", "sets", "many", "spots", "k", "spot", "after", "last", "way"] : List Str) (defScope s_turn_board) Wg.f_turn_board.body (defBody s_turn_board) = true) : DefW tb K mg "turn_board" Wg.f_turn_board :=
  defW_of F hm (C8.fnScope_by (N := ["board", "sets", "many", "spots", "k", "spot", "after", "last", "way"]) (P := ["board", "sets"]) (by kernel_rfl)) (F.bindsN fun _ _ _ _ _ _ us hl => match us, hl with | [_, _], _ => rfl) rfl rfl hc
theorem c_agains_wins : chkSs T (["board", "sets", "spots", "goal", "wins", "spot"] : List Str) (defScope s_agains_wins) Wg.f_agains_wins.body (defBody s_agains_wins) = true := by kernel_rfl
theorem w_agains_wins {tb : Tab} {K : PySem.W.Frag} {mg : Str → Option Value} {f : Addr} {fd : FuncData} (F : FunD K "agains_wins" "agains_wins" (defArgs s_agains_wins) (defBody s_agains_wins) (defScope s_agains_wins) [] [] f fd) (hm : mg "agains_wins" = some (.ref f)) (hc : chkSs tb (["board", "sets", "spots", "goal", "wins", "spot"] : List Str) (defScope s_agains_wins) Wg.f_agains_wins.body (defBody s_agains_wins) = true) : DefW tb K mg "agains_wins" Wg.f_agains_wins :=
  defW_of F hm (C8.fnScope_by (N := ["board", "sets", "spots", "goal", "wins", "spot"]) (P := ["board", "sets"]) (by kernel_rfl)) (F.bindsN fun _ _ _ _ _ _ us hl => match us, hl with | [_, _], _ => rfl) rfl rfl hc
theorem c_answers_wins : chkSs T (["board", "pairs", "turned", "ask", "answer"] : List Str) (defScope s_answers_wins) Wg.f_answers_wins.body (defBody s_answers_wins) = true := by kernel_rfl
theorem w_answers_wins {tb : Tab} {K : PySem.W.Frag} {mg : Str → Option Value} {f : Addr} {fd : FuncData} (F : FunD K "answers_wins" "answers_wins" (defArgs s_answers_wins) (defBody s_answers_wins) (defScope s_answers_wins) [] [] f fd) (hm : mg "answers_wins" = some (.ref f)) (hc : chkSs tb (["board", "pairs", "turned", "ask", "answer"] : List Str) (defScope s_answers_wins) Wg.f_answers_wins.body (defBody s_answers_wins) = true) : DefW tb K mg "answers_wins" Wg.f_answers_wins :=
  defW_of F hm (C8.fnScope_by (N := ["board", "pairs", "turned", "ask", "answer"]) (P := ["board", "pairs"]) (by kernel_rfl)) (F.bindsN fun _ _ _ _ _ _ us hl => match us, hl with | [_, _], _ => rfl) rfl rfl hc
theorem c_winners : chkSs T (["board", "wish", "name", "item", "roads"] : List Str) (defScope s_winners) Wg.f_winners.body (defBody s_winners) = true := by kernel_rfl
theorem w_winners {tb : Tab} {K : PySem.W.Frag} {mg : Str → Option Value} {f : Addr} {fd : FuncData} (F : FunD K "winners" "winners" (defArgs s_winners) (defBody s_winners) (defScope s_winners) [] [] f fd) (hm : mg "winners" = some (.ref f)) (hc : chkSs tb (["board", "wish", "name", "item", "roads"] : List Str) (defScope s_winners) Wg.f_winners.body (defBody s_winners) = true) : DefW tb K mg "winners" Wg.f_winners :=
  defW_of F hm (C8.fnScope_by (N := ["board", "wish", "name", "item", "roads"]) (P := ["board", "wish"]) (by kernel_rfl)) (F.bindsN fun _ _ _ _ _ _ us hl => match us, hl with | [_, _], _ => rfl) rfl rfl hc
theorem c_law_pool : chkSs T (["script", "salt", "cell"] : List Str) (defScope s_law_pool) Wg.f_law_pool.body (defBody s_law_pool) = true := by kernel_rfl
theorem w_law_pool {tb : Tab} {K : PySem.W.Frag} {mg : Str → Option Value} {f : Addr} {fd : FuncData} (F : FunD K "_law_pool" "_law_pool" (defArgs s_law_pool) (defBody s_law_pool) (defScope s_law_pool) [] [] f fd) (hm : mg "_law_pool" = some (.ref f)) (hc : chkSs tb (["script", "salt", "cell"] : List Str) (defScope s_law_pool) Wg.f_law_pool.body (defBody s_law_pool) = true) : DefW tb K mg "_law_pool" Wg.f_law_pool :=
  defW_of F hm (C8.fnScope_by (N := ["script", "salt", "cell"]) (P := ["script"]) (by kernel_rfl)) (F.bindsN fun _ _ _ _ _ _ us hl => match us, hl with | [_], _ => rfl) rfl rfl hc
theorem c_law_spread : chkSs T0 (["cell", "mixed", "total", "k"] : List Str) (defScope s_law_spread) Wg.f_law_spread.body (defBody s_law_spread) = true := by kernel_rfl
theorem w_law_spread {tb : Tab} {K : PySem.W.Frag} {mg : Str → Option Value} {f : Addr} {fd : FuncData} (F : FunD K "_law_spread" "_law_spread" (defArgs s_law_spread) (defBody s_law_spread) (defScope s_law_spread) [] [] f fd) (hm : mg "_law_spread" = some (.ref f)) (hc : chkSs tb (["cell", "mixed", "total", "k"] : List Str) (defScope s_law_spread) Wg.f_law_spread.body (defBody s_law_spread) = true) : DefW tb K mg "_law_spread" Wg.f_law_spread :=
  defW_of F hm (C8.fnScope_by (N := ["cell", "mixed", "total", "k"]) (P := ["cell"]) (by kernel_rfl)) (F.bindsN fun _ _ _ _ _ _ us hl => match us, hl with | [_], _ => rfl) rfl rfl hc
theorem c_law_draw : chkSs T1 (["pool", "many", "cell", "mixed", "value"] : List Str) (defScope s_law_draw) Wg.f_law_draw.body (defBody s_law_draw) = true := by kernel_rfl
theorem w_law_draw {tb : Tab} {K : PySem.W.Frag} {mg : Str → Option Value} {f : Addr} {fd : FuncData} (F : FunD K "_law_draw" "_law_draw" (defArgs s_law_draw) (defBody s_law_draw) (defScope s_law_draw) [] [] f fd) (hm : mg "_law_draw" = some (.ref f)) (hc : chkSs tb (["pool", "many", "cell", "mixed", "value"] : List Str) (defScope s_law_draw) Wg.f_law_draw.body (defBody s_law_draw) = true) : DefW tb K mg "_law_draw" Wg.f_law_draw :=
  defW_of F hm (C8.fnScope_by (N := ["pool", "many", "cell", "mixed", "value"]) (P := ["pool", "many"]) (by kernel_rfl)) (F.bindsN fun _ _ _ _ _ _ us hl => match us, hl with | [_, _], _ => rfl) rfl rfl hc
theorem c_law : chkSs T (["script", "pool", "ins", "outs", "many", "states", "k", "table", "talk", "board", "levels", "word", "row", "strategy", "paper", "calls", "answers", "now", "seen", "x", "rows", "ring", "y", "s"] : List Str) (defScope s_law) Wg.f_law_k52.body (defBody s_law) = true := by kernel_rfl
theorem w_law {tb : Tab} {K : PySem.W.Frag} {mg : Str → Option Value} {f : Addr} {fd : FuncData} (F : FunD K "law" "law" (defArgs s_law) (defBody s_law) (defScope s_law) [] [] f fd) (hm : mg "law" = some (.ref f)) (hc : chkSs tb (["script", "pool", "ins", "outs", "many", "states", "k", "table", "talk", "board", "levels", "word", "row", "strategy", "paper", "calls", "answers", "now", "seen", "x", "rows", "ring", "y", "s"] : List Str) (defScope s_law) Wg.f_law_k52.body (defBody s_law) = true) : DefW tb K mg "law" Wg.f_law_k52 :=
  defW_of F hm (C8.fnScope_by (N := ["script", "pool", "ins", "outs", "many", "states", "k", "table", "talk", "board", "levels", "word", "row", "strategy", "paper", "calls", "answers", "now", "seen", "x", "rows", "ring", "y", "s"]) (P := ["script"]) (by kernel_rfl)) (F.bindsN fun _ _ _ _ _ _ us hl => match us, hl with | [_], _ => rfl) rfl rfl hc
theorem facts {P : Program} {w : World} {K : PySem.W.Frag} {h : Heap} {mg : Str → Option Value} {f : Addr} {n k : Nat} {rest : Sts} (X : K.In h) (G : h.Ns mainGlobals mg) (hfa : mg ("law" : Str) = some (.ref f)) (c : He.SaysD fa fn K)
    (hL : Wg.f_law_k52 = ⟨k + 2, 1, .c (.asg (.nm 1) (.call 1 (.c (.var 0) .n))) rest⟩) (pure : Wg.wSs ⟨Pg.G, Wg.run Pg (n + 1)⟩ rest (.un :: .sh .pool :: List.replicate k .un) ⟨fun _ => False, fun d _ => d = .bl true, fun _ => False, fun _ => False⟩) :
    ∃ fd : FuncData, (∀ (s : Shared) (v : Value), BindsTo s fd ⟨[v], []⟩ [("script", v)]) ∧ ∀ base : Heap, K.In base → base.Ns mainGlobals mg → FnOk P w K mg base WgS.CX0 (n + 1 + 2 + 1) f fd ["script"] (spLaw K) := by
  obtain ⟨fd_is_whole, F_is_whole⟩ := c.def_ 0 (d := d_is_whole) rfl
  have g_is_whole := He.glo_ok X G (c.fact 0 (f := .glo "is_whole") rfl)
  obtain ⟨fd_is_named, F_is_named⟩ := c.def_ 1 (d := d_is_named) rfl
  have g_is_named := He.glo_ok X G (c.fact 1 (f := .glo "is_named") rfl)
  obtain ⟨fd_is_places, F_is_places⟩ := c.def_ 2 (d := d_is_places) rfl
  have g_is_places := He.glo_ok X G (c.fact 2 (f := .glo "is_places") rfl)
  obtain ⟨fd_is_board, F_is_board⟩ := c.def_ 3 (d := d_is_board) rfl
  have g_is_board := He.glo_ok X G (c.fact 3 (f := .glo "is_board") rfl)
  obtain ⟨fd_turned_board, F_turned_board⟩ := c.def_ 4 (d := d_turned_board) rfl
  have g_turned_board := He.glo_ok X G (c.fact 4 (f := .glo "turned_board") rfl)
  obtain ⟨fd_is_strategy, F_is_strategy⟩ := c.def_ 5 (d := d_is_strategy) rfl
  have g_is_strategy := He.glo_ok X G (c.fact 5 (f := .glo "is_strategy") rfl)
  obtain ⟨fd_need_strategy, F_need_strategy⟩ := c.def_ 6 (d := d_need_strategy) rfl
  have g_need_strategy := He.glo_ok X G (c.fact 6 (f := .glo "need_strategy") rfl)
  obtain ⟨fd_left_by, F_left_by⟩ := c.def_ 7 (d := d_left_by) rfl
  have g_left_by := He.glo_ok X G (c.fact 7 (f := .glo "left_by") rfl)
  obtain ⟨fd_drawing_steps, F_drawing_steps⟩ := c.def_ 8 (d := d_drawing_steps) rfl
  have g_drawing_steps := He.glo_ok X G (c.fact 8 (f := .glo "drawing_steps") rfl)
  obtain ⟨fd_drawn_in, F_drawn_in⟩ := c.def_ 9 (d := d_drawn_in) rfl
  have g_drawn_in := He.glo_ok X G (c.fact 9 (f := .glo "drawn_in") rfl)
  obtain ⟨fd_reached_from, F_reached_from⟩ := c.def_ 10 (d := d_reached_from) rfl
  have g_reached_from := He.glo_ok X G (c.fact 10 (f := .glo "reached_from") rfl)
  obtain ⟨fd_within, F_within⟩ := c.def_ 11 (d := d_within) rfl
  have g_within := He.glo_ok X G (c.fact 11 (f := .glo "within") rfl)
  obtain ⟨fd_drawn_within, F_drawn_within⟩ := c.def_ 12 (d := d_drawn_within) rfl
  have g_drawn_within := He.glo_ok X G (c.fact 12 (f := .glo "drawn_within") rfl)
  obtain ⟨fd_solved_levels, F_solved_levels⟩ := c.def_ 13 (d := d_solved_levels) rfl
  have g_solved_levels := He.glo_ok X G (c.fact 13 (f := .glo "solved_levels") rfl)
  obtain ⟨fd_ways_within, F_ways_within⟩ := c.def_ 14 (d := d_ways_within) rfl
  have g_ways_within := He.glo_ok X G (c.fact 14 (f := .glo "ways_within") rfl)
  obtain ⟨fd_level_wins, F_level_wins⟩ := c.def_ 15 (d := d_level_wins) rfl
  have g_level_wins := He.glo_ok X G (c.fact 15 (f := .glo "level_wins") rfl)
  obtain ⟨fd_level_strategies, F_level_strategies⟩ := c.def_ 16 (d := d_level_strategies) rfl
  have g_level_strategies := He.glo_ok X G (c.fact 16 (f := .glo "level_strategies") rfl)
  obtain ⟨fd_has_ring_of, F_has_ring_of⟩ := c.def_ 17 (d := d_has_ring_of) rfl
  have g_has_ring_of := He.glo_ok X G (c.fact 17 (f := .glo "has_ring_of") rfl)
  obtain ⟨fd_holds_levels, F_holds_levels⟩ := c.def_ 18 (d := d_holds_levels) rfl
  have g_holds_levels := He.glo_ok X G (c.fact 18 (f := .glo "holds_levels") rfl)
  obtain ⟨fd_check_levels, F_check_levels⟩ := c.def_ 19 (d := d_check_levels) rfl
  have g_check_levels := He.glo_ok X G (c.fact 19 (f := .glo "check_levels") rfl)
  obtain ⟨fd_talk_board, F_talk_board⟩ := c.def_ 20 (d := d_talk_board) rfl
  have g_talk_board := He.glo_ok X G (c.fact 20 (f := .glo "talk_board") rfl)
  obtain ⟨fd_talk_paper, F_talk_paper⟩ := c.def_ 21 (d := d_talk_paper) rfl
  have g_talk_paper := He.glo_ok X G (c.fact 21 (f := .glo "talk_paper") rfl)
  obtain ⟨fd_left_by_responder, F_left_by_responder⟩ := c.def_ 22 (d := d_left_by_responder) rfl
  have g_left_by_responder := He.glo_ok X G (c.fact 22 (f := .glo "left_by_responder") rfl)
  obtain ⟨fd_left_by_refuser, F_left_by_refuser⟩ := c.def_ 23 (d := d_left_by_refuser) rfl
  have g_left_by_refuser := He.glo_ok X G (c.fact 23 (f := .glo "left_by_refuser") rfl)
  obtain ⟨fd_is_responder, F_is_responder⟩ := c.def_ 24 (d := d_is_responder) rfl
  have g_is_responder := He.glo_ok X G (c.fact 24 (f := .glo "is_responder") rfl)
  obtain ⟨fd_is_refuser, F_is_refuser⟩ := c.def_ 25 (d := d_is_refuser) rfl
  have g_is_refuser := He.glo_ok X G (c.fact 25 (f := .glo "is_refuser") rfl)
  obtain ⟨fd_check_talk, F_check_talk⟩ := c.def_ 26 (d := d_check_talk) rfl
  have g_check_talk := He.glo_ok X G (c.fact 26 (f := .glo "check_talk") rfl)
  obtain ⟨fd_answers_to, F_answers_to⟩ := c.def_ 27 (d := d_answers_to) rfl
  have g_answers_to := He.glo_ok X G (c.fact 27 (f := .glo "answers_to") rfl)
  obtain ⟨fd_meet, F_meet⟩ := c.def_ 28 (d := d_meet) rfl
  have g_meet := He.glo_ok X G (c.fact 28 (f := .glo "meet") rfl)
  obtain ⟨fd_good_set, F_good_set⟩ := c.def_ 29 (d := d_good_set) rfl
  have g_good_set := He.glo_ok X G (c.fact 29 (f := .glo "good_set") rfl)
  obtain ⟨fd_other_spots, F_other_spots⟩ := c.def_ 30 (d := d_other_spots) rfl
  have g_other_spots := He.glo_ok X G (c.fact 30 (f := .glo "other_spots") rfl)
  obtain ⟨fd_one_move, F_one_move⟩ := c.def_ 31 (d := d_one_move) rfl
  have g_one_move := He.glo_ok X G (c.fact 31 (f := .glo "one_move") rfl)
  obtain ⟨fd_comes_again, F_comes_again⟩ := c.def_ 32 (d := d_comes_again) rfl
  have g_comes_again := He.glo_ok X G (c.fact 32 (f := .glo "comes_again") rfl)
  obtain ⟨fd_again_rounds, F_again_rounds⟩ := c.def_ 33 (d := d_again_rounds) rfl
  have g_again_rounds := He.glo_ok X G (c.fact 33 (f := .glo "again_rounds") rfl)
  obtain ⟨fd_again_wins, F_again_wins⟩ := c.def_ 34 (d := d_again_wins) rfl
  have g_again_wins := He.glo_ok X G (c.fact 34 (f := .glo "again_wins") rfl)
  obtain ⟨fd_atlast_wins, F_atlast_wins⟩ := c.def_ 35 (d := d_atlast_wins) rfl
  have g_atlast_wins := He.glo_ok X G (c.fact 35 (f := .glo "atlast_wins") rfl)
  obtain ⟨fd_reach_wins, F_reach_wins⟩ := c.def_ 36 (d := d_reach_wins) rfl
  have g_reach_wins := He.glo_ok X G (c.fact 36 (f := .glo "reach_wins") rfl)
  obtain ⟨fd_keep_wins, F_keep_wins⟩ := c.def_ 37 (d := d_keep_wins) rfl
  have g_keep_wins := He.glo_ok X G (c.fact 37 (f := .glo "keep_wins") rfl)
  obtain ⟨fd_pairs_after, F_pairs_after⟩ := c.def_ 38 (d := d_pairs_after) rfl
  have g_pairs_after := He.glo_ok X G (c.fact 38 (f := .glo "pairs_after") rfl)
  obtain ⟨fd_index_wins, F_index_wins⟩ := c.def_ 39 (d := d_index_wins) rfl
  have g_index_wins := He.glo_ok X G (c.fact 39 (f := .glo "index_wins") rfl)
  obtain ⟨fd_solved_sets, F_solved_sets⟩ := c.def_ 40 (d := d_solved_sets) rfl
  have g_solved_sets := He.glo_ok X G (c.fact 40 (f := .glo "solved_sets") rfl)
  obtain ⟨fd_lasting_wins, F_lasting_wins⟩ := c.def_ 41 (d := d_lasting_wins) rfl
  have g_lasting_wins := He.glo_ok X G (c.fact 41 (f := .glo "lasting_wins") rfl)
  obtain ⟨fd_table_wins, F_table_wins⟩ := c.def_ 42 (d := d_table_wins) rfl
  have g_table_wins := He.glo_ok X G (c.fact 42 (f := .glo "table_wins") rfl)
  obtain ⟨fd_turn_board, F_turn_board⟩ := c.def_ 43 (d := d_turn_board) rfl
  have g_turn_board := He.glo_ok X G (c.fact 43 (f := .glo "turn_board") rfl)
  obtain ⟨fd_agains_wins, F_agains_wins⟩ := c.def_ 44 (d := d_agains_wins) rfl
  have g_agains_wins := He.glo_ok X G (c.fact 44 (f := .glo "agains_wins") rfl)
  obtain ⟨fd_answers_wins, F_answers_wins⟩ := c.def_ 45 (d := d_answers_wins) rfl
  have g_answers_wins := He.glo_ok X G (c.fact 45 (f := .glo "answers_wins") rfl)
  obtain ⟨fd_winners, F_winners⟩ := c.def_ 46 (d := d_winners) rfl
  have g_winners := He.glo_ok X G (c.fact 46 (f := .glo "winners") rfl)
  obtain ⟨fd_law_pool, F_law_pool⟩ := c.def_ 47 (d := d_law_pool) rfl
  have g_law_pool := He.glo_ok X G (c.fact 47 (f := .glo "_law_pool") rfl)
  obtain ⟨fd_law_spread, F_law_spread⟩ := c.def_ 48 (d := d_law_spread) rfl
  have g_law_spread := He.glo_ok X G (c.fact 48 (f := .glo "_law_spread") rfl)
  obtain ⟨fd_law_draw, F_law_draw⟩ := c.def_ 49 (d := d_law_draw) rfl
  have g_law_draw := He.glo_ok X G (c.fact 49 (f := .glo "_law_draw") rfl)
  obtain ⟨fd_law, F_law⟩ := c.def_ 50 (d := d_law) rfl
  have g_law := He.glo_ok X G (c.fact 50 (f := .glo "law") rfl)
  have b_len := He.free_ok X G (c.fact 51 (f := .free "len") rfl)
  have b_tuple := He.free_ok X G (c.fact 52 (f := .free "tuple") rfl)
  have b_list := He.free_ok X G (c.fact 53 (f := .free "list") rfl)
  have b_sorted := He.free_ok X G (c.fact 54 (f := .free "sorted") rfl)
  have b_min := He.free_ok X G (c.fact 55 (f := .free "min") rfl)
  have b_max := He.free_ok X G (c.fact 56 (f := .free "max") rfl)
  have b_sum := He.free_ok X G (c.fact 57 (f := .free "sum") rfl)
  have b_abs := He.free_ok X G (c.fact 58 (f := .free "abs") rfl)
  have b_int := He.free_ok X G (c.fact 59 (f := .free "int") rfl)
  have b_all := He.free_ok X G (c.fact 60 (f := .free "all") rfl)
  have b_any := He.free_ok X G (c.fact 61 (f := .free "any") rfl)
  have b_range := He.free_ok X G (c.fact 62 (f := .free "range") rfl)
  have b_zip := He.free_ok X G (c.fact 63 (f := .free "zip") rfl)
  have b_set := He.free_ok X G (c.fact 64 (f := .free "set") rfl)
  have b_isinstance := He.free_ok X G (c.fact 65 (f := .free "isinstance") rfl)
  have b_bool := He.free_ok X G (c.fact 66 (f := .free "bool") rfl)
  have b_str := He.free_ok X G (c.fact 67 (f := .free "str") rfl)
  obtain ⟨t_MOST_SPOTS, k_MOST_SPOTS⟩ := He.int_ok X G (c.fact 68 rfl)
  have e := hfa.symm.trans g_law
  cases e
  have bb := FunD.bindsA (ps := ["script"]) F_law fun _ _ _ _ _ _ us hl => match us, hl with | [_], _ => rfl
  have base0 : Base K mg := by
    refine ⟨fun b x hx => ?_, b_range, b_zip, ⟨b_set, b_isinstance, b_bool, b_str⟩⟩
    cases b <;> first | (cases hx; done) | cases hx
    · exact b_len
    · exact b_tuple
    · exact b_list
    · exact b_sorted
    · exact b_min
    · exact b_max
    · exact b_sum
    · exact b_abs
    · exact b_int
    · exact b_all
    · exact b_any
  refine ⟨fd_law, fun s v => bb s [v] rfl, fun base _ _ => ?_⟩
  refine law_cal (T := T) (fnT := fvT K) (Pg := Pg) (N := ["script", "pool", "ins", "outs", "many", "states", "k", "table", "talk", "board", "levels", "word", "row", "strategy", "paper", "calls", "answers", "now", "seen", "x", "rows", "ring", "y", "s"]) base0 (fun _ f a hf _ => ?_) (fun _ _ g x h => ?_) (fun f x hf hn => ?_) (w_law_spread F_law_spread g_law_spread c_law_spread) (w_law_draw F_law_draw g_law_draw c_law_draw) (fun x h => by cases h; rfl) rfl F_law (C8.fnScope_by (by kernel_rfl)) rfl (congrArg Wg.Fn.slots hL) c_law hL pure
  · unfold fvT at hf
    split at hf
    · cases hf; exact ⟨_, rfl, g_again_wins⟩
    · cases hf; exact ⟨_, rfl, g_agains_wins⟩
    · cases hf; exact ⟨_, rfl, g_answers_wins⟩
    · cases hf; exact ⟨_, rfl, g_atlast_wins⟩
    · cases hf; exact ⟨_, rfl, g_index_wins⟩
    · cases hf; exact ⟨_, rfl, g_keep_wins⟩
    · cases hf; exact ⟨_, rfl, g_level_wins⟩
    · cases hf; exact ⟨_, rfl, g_reach_wins⟩
    · cases hf; exact ⟨_, rfl, g_table_wins⟩
    · cases hf
  · have h : conF g = some x := h
    unfold conF at h
    split at h
    · cases h; exact ⟨.ref (He.ga K "again_wins"), _, _, g_again_wins, rfl, rfl, fun _ _ => .fn rfl⟩
    · cases h; exact ⟨.ref (He.ga K "agains_wins"), _, _, g_agains_wins, rfl, rfl, fun _ _ => .fn rfl⟩
    · cases h; exact ⟨.ref (He.ga K "answers_wins"), _, _, g_answers_wins, rfl, rfl, fun _ _ => .fn rfl⟩
    · cases h; exact ⟨.ref (He.ga K "atlast_wins"), _, _, g_atlast_wins, rfl, rfl, fun _ _ => .fn rfl⟩
    · cases h; exact ⟨.ref (He.ga K "index_wins"), _, _, g_index_wins, rfl, rfl, fun _ _ => .fn rfl⟩
    · cases h; exact ⟨.ref (He.ga K "keep_wins"), _, _, g_keep_wins, rfl, rfl, fun _ _ => .fn rfl⟩
    · cases h; exact ⟨.ref (He.ga K "level_wins"), _, _, g_level_wins, rfl, rfl, fun _ _ => .fn rfl⟩
    · cases h; exact ⟨.ref (He.ga K "reach_wins"), _, _, g_reach_wins, rfl, rfl, fun _ _ => .fn rfl⟩
    · cases h; exact ⟨.ref (He.ga K "table_wins"), _, _, g_table_wins, rfl, rfl, fun _ _ => .fn rfl⟩
    · cases h; exact ⟨.int 8, _, _, k_MOST_SPOTS, ⟨t_MOST_SPOTS, rfl⟩, rfl, fun _ _ => .int 8⟩
    · cases h
  · have hf : tabF f = some x := hf
    unfold tabF at hf
    split at hf
    · exact (hn rfl).elim
    · cases hf; exact ⟨_, rfl, w_law_pool F_law_pool g_law_pool c_law_pool⟩
    · cases hf; exact ⟨_, rfl, w_law_spread F_law_spread g_law_spread (by kernel_rfl)⟩
    · cases hf; exact ⟨_, rfl, w_again_rounds F_again_rounds g_again_rounds c_again_rounds⟩
    · cases hf; exact ⟨_, rfl, w_again_wins F_again_wins g_again_wins c_again_wins⟩
    · cases hf; exact ⟨_, rfl, w_agains_wins F_agains_wins g_agains_wins c_agains_wins⟩
    · cases hf; exact ⟨_, rfl, w_answers_to F_answers_to g_answers_to c_answers_to⟩
    · cases hf; exact ⟨_, rfl, w_answers_wins F_answers_wins g_answers_wins c_answers_wins⟩
    · cases hf; exact ⟨_, rfl, w_atlast_wins F_atlast_wins g_atlast_wins c_atlast_wins⟩
    · cases hf; exact ⟨_, rfl, w_check_levels F_check_levels g_check_levels c_check_levels⟩
    · cases hf; exact ⟨_, rfl, w_check_talk F_check_talk g_check_talk c_check_talk⟩
    · cases hf; exact ⟨_, rfl, w_comes_again F_comes_again g_comes_again c_comes_again⟩
    · cases hf; exact ⟨_, rfl, w_drawing_steps F_drawing_steps g_drawing_steps c_drawing_steps⟩
    · cases hf; exact ⟨_, rfl, w_drawn_in F_drawn_in g_drawn_in c_drawn_in⟩
    · cases hf; exact ⟨_, rfl, w_drawn_within F_drawn_within g_drawn_within c_drawn_within⟩
    · cases hf; exact ⟨_, rfl, w_good_set F_good_set g_good_set c_good_set⟩
    · cases hf; exact ⟨_, rfl, w_has_ring_of F_has_ring_of g_has_ring_of c_has_ring_of⟩
    · cases hf; exact ⟨_, rfl, w_holds_levels F_holds_levels g_holds_levels c_holds_levels⟩
    · cases hf; exact ⟨_, rfl, w_index_wins F_index_wins g_index_wins c_index_wins⟩
    · cases hf; exact ⟨_, rfl, w_is_board F_is_board g_is_board c_is_board⟩
    · cases hf; exact ⟨_, rfl, w_is_named F_is_named g_is_named c_is_named⟩
    · cases hf; exact ⟨_, rfl, w_is_places F_is_places g_is_places c_is_places⟩
    · cases hf; exact ⟨_, rfl, w_is_refuser F_is_refuser g_is_refuser c_is_refuser⟩
    · cases hf; exact ⟨_, rfl, w_is_responder F_is_responder g_is_responder c_is_responder⟩
    · cases hf; exact ⟨_, rfl, w_is_strategy F_is_strategy g_is_strategy c_is_strategy⟩
    · cases hf; exact ⟨_, rfl, w_is_whole F_is_whole g_is_whole c_is_whole⟩
    · cases hf; exact ⟨_, rfl, w_keep_wins F_keep_wins g_keep_wins c_keep_wins⟩
    · cases hf; exact ⟨_, rfl, w_lasting_wins F_lasting_wins g_lasting_wins c_lasting_wins⟩
    · cases hf; exact ⟨_, rfl, w_left_by F_left_by g_left_by c_left_by⟩
    · cases hf; exact ⟨_, rfl, w_left_by_refuser F_left_by_refuser g_left_by_refuser c_left_by_refuser⟩
    · cases hf; exact ⟨_, rfl, w_left_by_responder F_left_by_responder g_left_by_responder c_left_by_responder⟩
    · cases hf; exact ⟨_, rfl, w_level_strategies F_level_strategies g_level_strategies c_level_strategies⟩
    · cases hf; exact ⟨_, rfl, w_level_wins F_level_wins g_level_wins c_level_wins⟩
    · cases hf; exact ⟨_, rfl, w_meet F_meet g_meet c_meet⟩
    · cases hf; exact ⟨_, rfl, w_need_strategy F_need_strategy g_need_strategy c_need_strategy⟩
    · cases hf; exact ⟨_, rfl, w_one_move F_one_move g_one_move c_one_move⟩
    · cases hf; exact ⟨_, rfl, w_other_spots F_other_spots g_other_spots c_other_spots⟩
    · cases hf; exact ⟨_, rfl, w_pairs_after F_pairs_after g_pairs_after c_pairs_after⟩
    · cases hf; exact ⟨_, rfl, w_reach_wins F_reach_wins g_reach_wins c_reach_wins⟩
    · cases hf; exact ⟨_, rfl, w_reached_from F_reached_from g_reached_from c_reached_from⟩
    · cases hf; exact ⟨_, rfl, w_solved_levels F_solved_levels g_solved_levels c_solved_levels⟩
    · cases hf; exact ⟨_, rfl, w_solved_sets F_solved_sets g_solved_sets c_solved_sets⟩
    · cases hf; exact ⟨_, rfl, w_table_wins F_table_wins g_table_wins c_table_wins⟩
    · cases hf; exact ⟨_, rfl, w_talk_board F_talk_board g_talk_board c_talk_board⟩
    · cases hf; exact ⟨_, rfl, w_talk_paper F_talk_paper g_talk_paper c_talk_paper⟩
    · cases hf; exact ⟨_, rfl, w_turn_board F_turn_board g_turn_board c_turn_board⟩
    · cases hf; exact ⟨_, rfl, w_turned_board F_turned_board g_turned_board c_turned_board⟩
    · cases hf; exact ⟨_, rfl, w_ways_within F_ways_within g_ways_within c_ways_within⟩
    · cases hf; exact ⟨_, rfl, w_winners F_winners g_winners c_winners⟩
    · cases hf; exact ⟨_, rfl, w_within F_within g_within c_within⟩
    · cases hf
end WgHead
open PySem PySem.W PySem.Calls PyProof.Rows
theorem WgHead.holds {k : Nat} {rest : Wg.Sts} (hL : Wg.f_law_k52 = ⟨k + 2, 1, .c (.asg (.nm 1) (.call 1 (.c (.var 0) .n))) rest⟩) (pure : Wg.wSs ⟨WgHead.Pg.G, Wg.run WgHead.Pg 61⟩ rest (.un :: .sh .pool :: List.replicate k .un) ⟨fun _ => False, fun d _ => d = .bl true, fun _ => False, fun _ => False⟩) : PySem.Challenge.rw_wishgames_k52_whole_talks_as_games.Holds := by
  w_on; o_law
  refine HandSHeadRun.head_any (r := OpenLaw.row PySem.Challenge.rw_wishgames_k52_whole_talks_as_games) (q := view (OpenLaw.row PySem.Challenge.rw_wishgames_k52_whole_talks_as_games).prog [66]) (H := WgHead.hk) (ob := WgHead.ob) (M := 3600) (loose := WgHead.loose) (d := HandSHeadRun.topDef (OpenLaw.row PySem.Challenge.rw_wishgames_k52_whole_talks_as_games).prog 66) (kwd := []) WgHead.ob_eq
    (by kernel_rfl) (fun s => by kernel_rfl) WgHead.run (by kernel_rfl) (by kernel_rfl) (by kernel_rfl) (by rfl) (by first | assumption | decide +kernel) (by decide +kernel) ⟨rfl, rfl, rfl, rfl, rfl, by decide +kernel⟩ ?hw ?hc
  case hw => w_witness2
  case hc =>
    refine L2.walk_ofE (l := PySem.Challenge.rw_wishgames_k52_whole_talks_as_games) (n := 63) (k := 64) (x := "script") (CX := WgS.CX0) rfl (by decide) (by kernel_rfl) ⟨rfl, by decide, by decide⟩ ?F (fun _ _ _ _ z => z)
    intro w mg fa h Y G hmg0
    obtain ⟨K, KX, c⟩ := Y
    have hmg : mg ("law" : PySem.Str) = some (.ref fa) := by
      have e : (HandSHeadRun.topDef (OpenLaw.row PySem.Challenge.rw_wishgames_k52_whole_talks_as_games).prog 66).name = ("law" : PySem.Str) := by kernel_rfl
      rw [← e]
      exact hmg0
    obtain ⟨fd, hb, hF⟩ := WgHead.facts (P := (PySem.Challenge.rw_wishgames_k52_whole_talks_as_games).prog) (w := w) (n := 60) KX G hmg c hL pure
    exact ⟨K, fd, WgS.spLaw K, KX, hb, fun H a ns hl _ hS => ⟨a, ns, rfl, hS, fun _ => rfl⟩, hF⟩
set_option maxHeartbeats 1000000
set_option Elab.async false
set_option linter.all false
set_option maxRecDepth 100000
namespace Wg
/-- a for: an invariant by the turn -/
theorem foW_inv {body : D → Env → Ends → Prop} {E : Ends} {items : List D} {ρ : Env} (I : Nat → Env → Prop) (h0 : I 0 ρ)
    (step : ∀ (i : Nat) (d : D) (ρ : Env) (K : Env → Prop), items[i]? = some d → I i ρ → (∀ ρ', I (i + 1) ρ' → K ρ') → body d ρ ⟨K, E.rt, E.nx, K⟩) (done : ∀ ρ, I items.length ρ → E.nx ρ) : foW body E items ρ := by
  have gen : ∀ (l : List D) (i : Nat) (ρ : Env), i + l.length = items.length → (∀ j, l[j]? = items[i + j]?) → I i ρ → foW body E l ρ := by
    intro l
    induction l with
    | nil =>
      intro i ρ hl _ h
      have : i = items.length := by simpa using hl
      subst this
      exact done ρ h
    | cons d l ih =>
      intro i ρ hl he h
      refine step i d ρ _ ?_ h fun ρ' h' => ih (i + 1) ρ' (by simp at hl; omega) (fun j => ?_) h'
      · have := he 0
        simpa using this.symm
      · have := he (j + 1)
        have e : i + 1 + j = i + (j + 1) := by omega
        rw [e, ← this]
        simp
  exact gen items 0 ρ (by simp) (fun j => by simp) h0
/-- a while, by a measure -/
theorem whW_inv {test : Env → (Bool → Env → Prop) → Prop} {body : Env → Ends → Prop} {E : Ends} (I : Nat → Env → Prop)
    (step : ∀ (n : Nat) (ρ : Env) (K : Env → Prop), I n ρ → (∀ j ρ', j < n → I j ρ' → K ρ') → test ρ fun b ρ1 => bif b then body ρ1 ⟨K, E.rt, E.nx, K⟩ else E.nx ρ1) :
    ∀ (n : Nat) (ρ : Env), I n ρ → ∀ m, n < m → whW test body E m ρ := by
  intro n
  induction n using Nat.strongRecOn with
  | ind n ih =>
    intro ρ h m hm
    cases m with
    | zero => omega
    | succ m => exact step n ρ _ h fun j ρ' hj h' => ih j hj ρ' h' m (by omega)
inductive All2 {α β : Type} (P : α → β → Prop) : List α → List β → Prop
  | nil : All2 P [] []
  | cons {a : α} {b : β} {as : List α} {bs : List β} : P a b → All2 P as bs → All2 P (a :: as) (b :: bs)
/-- whole numbers as data -/
def nD (l : List Nat) : List D := l.map fun (n : Nat) => D.int (n : Int)
theorem nD_get {l : List Nat} {i k : Nat} (h : l[i]? = some k) : (nD l)[i]? = some (.int (k : Int)) := by simp [nD, h]
theorem rangeD_nat (n : Nat) : rangeD 0 (n : Int) = nD (List.range n) := by
  unfold rangeD nD
  simp
def oD : Option Nat → D
  | none => .non
  | some k => .int (k : Int)
theorem lcW_on {α : Type} {step : D → Env → (Option D → Env → Prop) → Prop} {ρ : Env} {Q : List D → Env → Prop} (g : α → D) (r : α → Option D) (l : List α) (h : ∀ a ∈ l, ∀ K : Option D → Env → Prop, K (r a) ρ → step (g a) ρ K) (q : Q (l.filterMap r) ρ) : lcW step (l.map g) [] ρ Q := by
  have gen : ∀ (l : List α) (acc : List D), (∀ a ∈ l, ∀ K : Option D → Env → Prop, K (r a) ρ → step (g a) ρ K) → Q (acc ++ l.filterMap r) ρ → lcW step (l.map g) acc ρ Q := by
    intro l
    induction l with
    | nil =>
      intro acc _ q
      have q : Q acc ρ := by simpa using q
      exact q
    | cons a l ih =>
      intro acc h q
      refine h a List.mem_cons_self _ ?_
      refine ih _ (fun b hb => h b (List.mem_cons_of_mem _ hb)) ?_
      cases e : r a with
      | none => simpa [e] using q
      | some d => simpa [e] using q
  exact gen l [] h (by simpa using q)
theorem lcW_onMap {α : Type} {step : D → Env → (Option D → Env → Prop) → Prop} {ρ : Env} {Q : List D → Env → Prop} (g f : α → D) (l : List α) (h : ∀ a ∈ l, ∀ K : Option D → Env → Prop, K (some (f a)) ρ → step (g a) ρ K) (q : Q (l.map f) ρ) : lcW step (l.map g) [] ρ Q := by
  refine lcW_on g (fun a => some (f a)) l h ?_
  simpa using q
theorem pls_all : ∀ {n : Nat} {l : List D}, (∀ x ∈ l, D.pl n x = true) → D.pls n l = true
  | n, [], _ => by cases n <;> rfl
  | n, x :: xs, h => by
    have h1 := h x List.mem_cons_self
    have h2 := pls_all (n := n) fun y hy => h y (List.mem_cons_of_mem _ hy)
    unfold D.pls
    rw [h1, h2]
    rfl
theorem pl_int (n : Nat) (i : Int) : D.pl n (.int i) = true := by cases n <;> rfl
theorem pls_nD (n : Nat) (l : List Nat) : D.pls n (nD l) = true := pls_all fun x hx => by
  obtain ⟨k, _, rfl⟩ := List.mem_map.mp hx
  exact pl_int n _
theorem any_nD (l : List Nat) (i : Nat) : ((nD l).any fun z => D.eqv z (.int (i : Int))) = decide (i ∈ l) := by
  rw [Bool.eq_iff_iff]
  simp only [nD, List.any_map, List.any_eq_true, Function.comp, decide_eq_true_eq]
  constructor
  · rintro ⟨k, hk, e⟩
    have e : ((k : Int) == (i : Int)) = true := e
    have e : (k : Int) = (i : Int) := by simpa using e
    have : k = i := by omega
    subst this
    exact hk
  · intro h
    exact ⟨i, h, by show ((i : Int) == (i : Int)) = true; simp⟩
theorem alike_nD (l : List Nat) : allAlike (nD l) := by
  refine ⟨fun x hx y hy => ?_, fun x hx => ?_⟩
  · obtain ⟨a, _, rfl⟩ := List.mem_map.mp hx
    obtain ⟨b, _, rfl⟩ := List.mem_map.mp hy
    rfl
  · obtain ⟨a, _, rfl⟩ := List.mem_map.mp hx
    exact ⟨rfl, rfl⟩
theorem maxD_nD : ∀ (l : List Nat) (k : Nat), maxD (.int (k : Int)) (nD l) = .int ((l.foldl max k : Nat) : Int)
  | [], k => rfl
  | a :: l, k => by
    have e : maxD (.int (k : Int)) (nD (a :: l)) = maxD (if D.lt (.int (k : Int)) (.int (a : Int)) then .int (a : Int) else .int (k : Int)) (nD l) := rfl
    rw [e]
    have e2 : (if D.lt (.int (k : Int)) (.int (a : Int)) then D.int (a : Int) else .int (k : Int)) = .int ((max k a : Nat) : Int) := by
      have e3 : D.lt (.int (k : Int)) (.int (a : Int)) = decide ((k : Int) < (a : Int)) := rfl
      rw [e3]
      by_cases c : k < a
      · rw [if_pos (by simpa using c), Nat.max_eq_right (Nat.le_of_lt c)]
      · rw [if_neg (by simpa using c), Nat.max_eq_left (by omega)]
    rw [e2, maxD_nD l (max k a)]
    rfl
theorem max_ok {l : List Nat} {k : Nat} {Q : D → Prop} (q : Q (.int ((l.foldl max k : Nat) : Int))) : maxL (nD (k :: l)) Q := by
  have e0 : nD (k :: l) = .int (k : Int) :: nD l := rfl
  rw [e0]
  unfold maxL
  refine ⟨alike_nD (k :: l), ?_⟩
  have e := maxD_nD l k
  show Q (maxD (.int (k : Int)) (nD l))
  rw [e]
  exact q
theorem max_okE {m l : List Nat} {k : Nat} {Q : D → Prop} (h : m = k :: l) (q : Q (.int ((l.foldl max k : Nat) : Int))) : maxL (nD m) Q := by
  subst h
  exact max_ok q
theorem not_T {b : Bool} (h : (!b) = true) : b = false := by cases b with | true => cases h | false => rfl
theorem not_F {b : Bool} (h : (!b) = false) : b = true := by cases b with | true => rfl | false => cases h
theorem filterMap_if {α β : Type} (c : α → Bool) (f : α → β) : ∀ l : List α, l.filterMap (fun s => if c s = true then some (f s) else none) = (l.filter c).map f
  | [] => rfl
  | x :: xs => by
    rw [List.filterMap_cons, List.filter_cons]
    cases e : c x
    · exact filterMap_if c f xs
    · show f x :: _ = List.map f (x :: xs.filter c)
      rw [List.map_cons, filterMap_if c f xs]
/-- whole numbers, compared -/
theorem eqv_nat (a b : Nat) : D.eqv (.int (a : Int)) (.int (b : Int)) = decide (a = b) := by
  show ((a : Int) == (b : Int)) = decide (a = b)
  rw [Bool.eq_iff_iff]
  simp
  omega
theorem lt_nat (a b : Nat) : D.lt (.int (a : Int)) (.int (b : Int)) = decide (a < b) := by
  show decide ((a : Int) < (b : Int)) = decide (a < b)
  rw [Bool.eq_iff_iff]
  simp
theorem eqv_natT {a b : Nat} (h : D.eqv (.int (a : Int)) (.int (b : Int)) = true) : a = b := of_decide_eq_true ((eqv_nat a b).symm.trans h)
theorem eqv_natF {a b : Nat} (h : D.eqv (.int (a : Int)) (.int (b : Int)) = false) : a ≠ b := of_decide_eq_false ((eqv_nat a b).symm.trans h)
theorem lt_natT {a b : Nat} (h : D.lt (.int (a : Int)) (.int (b : Int)) = true) : a < b := of_decide_eq_true ((lt_nat a b).symm.trans h)
theorem lt_natF {a b : Nat} (h : D.lt (.int (a : Int)) (.int (b : Int)) = false) : ¬ a < b := of_decide_eq_false ((lt_nat a b).symm.trans h)
theorem nD_len (l : List Nat) : (nD l).length = l.length := List.length_map ..
/-- a def's start, its slots written out -/
theorem wF_at {Φ : Ctx} {f : Fn} {ds : List D} {Q : D → Prop} (ρ : Env) (h1 : ds.length = f.pars) (h2 : f.pars ≤ f.slots) (h3 : ds.map Slot.sh ++ List.replicate (f.slots - f.pars) .un = ρ) (q : wSs Φ f.body ρ ⟨fun _ => Q .non, fun d _ => Q d, fun _ => False, fun _ => False⟩) : wF Φ f ds Q := by
  refine ⟨h1, h2, ?_⟩
  rw [h3]
  exact q
/-- a call to one depth more -/
theorem run_of {P : Prog} {n f : Nat} {fn : Fn} {ds : List D} {Q : D → Prop} (h : P.fns f = some fn) (hf : f ≠ 0) (q : wF ⟨P.G, run P n⟩ fn ds Q) : run P (n + 1) f ds Q := by
  unfold run
  split
  · exact (hf rfl).elim
  · exact (hf rfl).elim
  · rw [h]; exact q
end Wg
set_option Elab.async false
set_option linter.all false
namespace M47
/-- none: beyond all numbers -/
def ole : Option Nat → Option Nat → Prop
  | _, none => True
  | none, some _ => False
  | some a, some b => a ≤ b
theorem ole_refl : ∀ a, ole a a
  | none => trivial
  | some a => Nat.le_refl a
theorem ole_trans : ∀ {a b c}, ole a b → ole b c → ole a c
  | _, _, none, _, _ => by cases ‹Option Nat› <;> trivial
  | none, none, some _, _, h => h.elim
  | some _, none, some _, _, h => h.elim
  | none, some _, some _, h, _ => h.elim
  | some _, some _, some _, h, g => Nat.le_trans h g
theorem ole_none (a) : ole a none := by cases a <;> trivial
theorem ole_some {a : Option Nat} {k : Nat} (h : ole a (some k)) : ∃ j, a = some j ∧ j ≤ k := by
  cases a with
  | none => exact h.elim
  | some j => exact ⟨j, rfl, h⟩
def omin : Option Nat → Option Nat → Option Nat
  | none, b => b
  | a, none => a
  | some a, some b => some (min a b)
def omax : Option Nat → Option Nat → Option Nat
  | some a, some b => some (max a b)
  | _, _ => none
def inf : List (Option Nat) → Option Nat
  | [] => none
  | a :: l => omin a (inf l)
def sup : List (Option Nat) → Option Nat
  | [] => some 0
  | a :: l => omax a (sup l)
theorem inf_some : ∀ {l : List (Option Nat)} {j : Nat}, inf l = some j → some j ∈ l
  | [], _, h => by cases h
  | a :: l, j, h => by
    unfold inf at h
    cases a with
    | none => exact List.mem_cons_of_mem _ (inf_some h)
    | some a =>
      cases e : inf l with
      | none => rw [e] at h; cases h; exact List.mem_cons_self
      | some b =>
        rw [e] at h
        have h : min a b = j := Option.some.inj h
        rcases Nat.le_total a b with c | c
        · rw [Nat.min_eq_left c] at h; subst h; exact List.mem_cons_self
        · rw [Nat.min_eq_right c] at h; subst h; exact List.mem_cons_of_mem _ (inf_some e)
theorem inf_le : ∀ {l : List (Option Nat)} {a : Option Nat}, a ∈ l → ole (inf l) a
  | [], _, h => nomatch h
  | b :: l, a, h => by
    unfold inf
    rcases List.mem_cons.mp h with e | h
    · subst e
      cases a with
      | none => exact ole_none _
      | some a => cases inf l with
        | none => exact Nat.le_refl a
        | some c => exact Nat.min_le_left a c
    · have := inf_le h
      cases b with
      | none => exact this
      | some b =>
        cases e : inf l with
        | none =>
          rw [e] at this
          cases a with
          | none => exact ole_none _
          | some a => exact this.elim
        | some c =>
          rw [e] at this
          cases a with
          | none => exact ole_none _
          | some a => exact Nat.le_trans (Nat.min_le_right b c) this
theorem sup_some : ∀ {l : List (Option Nat)} {j : Nat}, sup l = some j → ∀ a ∈ l, ∃ i, a = some i ∧ i ≤ j
  | [], _, _ => fun a h => nomatch h
  | a :: l, j, h => by
    unfold sup at h
    cases a with
    | none => cases h
    | some a =>
      cases e : sup l with
      | none => rw [e] at h; cases h
      | some b =>
        rw [e] at h
        have h : max a b = j := Option.some.inj h
        intro c hc
        rcases List.mem_cons.mp hc with q | q
        · exact ⟨a, q, by rw [← h]; exact Nat.le_max_left a b⟩
        · obtain ⟨i, e1, e2⟩ := sup_some e c q
          exact ⟨i, e1, by rw [← h]; exact Nat.le_trans e2 (Nat.le_max_right a b)⟩
theorem sup_le : ∀ {l : List (Option Nat)} {j : Nat}, (∀ a ∈ l, ole a (some j)) → ole (sup l) (some j)
  | [], j, _ => Nat.zero_le j
  | a :: l, j, h => by
    unfold sup
    have h1 := h a List.mem_cons_self
    have h2 := sup_le (l := l) fun b hb => h b (List.mem_cons_of_mem _ hb)
    obtain ⟨x, rfl, hx⟩ := ole_some h1
    obtain ⟨y, e, hy⟩ := ole_some h2
    rw [e]
    exact Nat.max_le.mpr ⟨hx, hy⟩
/-- the greatest one is among them -/
theorem sup_mem : ∀ {l : List (Option Nat)} {j : Nat}, l ≠ [] → sup l = some j → some j ∈ l
  | [], _, h, _ => (h rfl).elim
  | [a], j, _, h => by
    unfold sup at h
    cases a with
    | none => cases h
    | some a =>
      have h : max a 0 = j := Option.some.inj h
      rw [Nat.max_eq_left (Nat.zero_le a)] at h
      subst h
      exact List.mem_cons_self
  | a :: b :: l, j, _, h => by
    have h : omax a (sup (b :: l)) = some j := h
    cases a with
    | none => cases h
    | some a =>
      cases e : sup (b :: l) with
      | none => rw [e] at h; cases h
      | some c =>
        rw [e] at h
        have h : max a c = j := Option.some.inj h
        rcases Nat.le_total c a with q | q
        · rw [Nat.max_eq_left q] at h; subst h; exact List.mem_cons_self
        · rw [Nat.max_eq_right q] at h; subst h; exact List.mem_cons_of_mem _ (sup_mem (by simp) e)
/-- the best of the ways' numbers, for owner 0 the least, else the greatest -/
def best (zero : Bool) (l : List (Option Nat)) : Option Nat := if zero then inf l else sup l
theorem best_mem {z : Bool} {l : List (Option Nat)} {j : Nat} (hl : l ≠ []) (h : best z l = some j) : some j ∈ l := by
  unfold best at h
  split at h
  · exact inf_some h
  · exact sup_mem hl h
/-- a board: who moves (true: player 0), where to -/
structure Bd where
  m : Nat
  own : Nat → Bool
  ways : Nat → List Nat
  ne : ∀ s, s < m → ways s ≠ []
  lt : ∀ s, s < m → ∀ w ∈ ways s, w < m
abbrev Vec := Nat → Option Nat
/-- one step: nothing at a goal; else the toll and the best of the ways -/
def F (B : Bd) (t : Nat → Nat) (g : Nat → Bool) (x : Vec) (s : Nat) : Option Nat := if g s then some 0 else (best (B.own s) ((B.ways s).map x)).map (t s + ·)
def Le (B : Bd) (x y : Vec) : Prop := ∀ s, s < B.m → ole (x s) (y s)
theorem best_mono {z : Bool} {ws : List Nat} {x y : Vec} (h : ∀ w ∈ ws, ole (x w) (y w)) : ole (best z (ws.map x)) (best z (ws.map y)) := by
  cases e : best z (ws.map y) with
  | none => exact ole_none _
  | some j =>
    unfold best at e ⊢
    cases z with
    | true =>
      have e : inf (ws.map y) = some j := e
      obtain ⟨w, hw, e2⟩ := List.mem_map.mp (inf_some e)
      have h1 := h w hw
      rw [e2] at h1
      exact ole_trans (inf_le (List.mem_map.mpr ⟨w, hw, rfl⟩)) h1
    | false =>
      have e : sup (ws.map y) = some j := e
      refine sup_le fun a ha => ?_
      obtain ⟨w, hw, rfl⟩ := List.mem_map.mp ha
      obtain ⟨i, e1, e2⟩ := sup_some e (y w) (List.mem_map.mpr ⟨w, hw, rfl⟩)
      have h1 := h w hw
      rw [e1] at h1
      exact ole_trans h1 e2
def Fix (B : Bd) (t : Nat → Nat) (g : Nat → Bool) (x : Vec) : Prop := ∀ s, s < B.m → F B t g x s = x s
/-- a number is below the count of the spots times the most toll -/
theorem Fix.bound {B : Bd} {t : Nat → Nat} {g : Nat → Bool} {x : Vec} {T : Nat} (ht : ∀ s, g s = false → 1 ≤ t s) (hT : ∀ s, s < B.m → g s = false → t s ≤ T) (hx : Fix B t g x) :
    ∀ k s, s < B.m → x s = some k → k ≤ T * ((List.range B.m).filter fun w => match x w with | some j => decide (j < k) | none => false).length := by
  intro k
  induction k using Nat.strongRecOn with
  | ind k ih =>
    intro s hs e
    have e0 := e
    rw [← hx s hs] at e
    unfold F at e
    split at e
    · cases e; exact Nat.zero_le _
    · rename_i hg
      have hg : g s = false := by simpa using hg
      cases e2 : best (B.own s) ((B.ways s).map x) with
      | none => rw [e2] at e; cases e
      | some j =>
        rw [e2] at e
        have e : t s + j = k := Option.some.inj e
        have hjk : j < k := by have := ht s hg; omega
        obtain ⟨w, hw, e4⟩ := List.mem_map.mp (best_mem (by simp [B.ne s hs]) e2)
        have h5 := ih j hjk w (B.lt s hs w hw) e4
        have hlt : ((List.range B.m).filter fun w => match x w with | some i => decide (i < j) | none => false).length + 1 ≤ ((List.range B.m).filter fun w => match x w with | some i => decide (i < k) | none => false).length := by
          have gen : ∀ l : List Nat, w ∈ l → (l.filter fun w => match x w with | some i => decide (i < j) | none => false).length + 1 ≤ (l.filter fun w => match x w with | some i => decide (i < k) | none => false).length := by
            have mono : ∀ l : List Nat, (l.filter fun w => match x w with | some i => decide (i < j) | none => false).length ≤ (l.filter fun w => match x w with | some i => decide (i < k) | none => false).length := by
              intro l
              induction l with
              | nil => exact Nat.le_refl _
              | cons v l ih2 =>
                rw [List.filter_cons, List.filter_cons]
                cases q : x v with
                | none => simpa [q] using ih2
                | some i =>
                  by_cases c1 : i < j
                  · have c2 : i < k := Nat.lt_trans c1 hjk
                    simpa [c1, c2] using ih2
                  · by_cases c2 : i < k
                    · simp only [c1, c2, decide_false, decide_true, if_true, Bool.false_eq_true, if_false, List.length_cons]
                      omega
                    · simpa [c1, c2] using ih2
            intro l
            induction l with
            | nil => intro h; cases h
            | cons v l ih2 =>
              intro h
              rw [List.filter_cons, List.filter_cons]
              rcases List.mem_cons.mp h with q | q
              · subst q
                rw [e4]
                have c1 : ¬ j < j := Nat.lt_irrefl j
                simp only [c1, hjk, decide_false, decide_true, if_true, Bool.false_eq_true, if_false, List.length_cons]
                have := mono l
                omega
              · have h6 := ih2 q
                cases q2 : x v with
                | none => simpa [q2] using h6
                | some i =>
                  by_cases c1 : i < j
                  · have c2 : i < k := Nat.lt_trans c1 hjk
                    simp only [c1, c2, decide_true, if_true, List.length_cons]
                    omega
                  · by_cases c2 : i < k
                    · simp only [c1, c2, decide_false, decide_true, if_true, Bool.false_eq_true, if_false, List.length_cons]
                      omega
                    · simpa [c1, c2] using h6
          exact gen _ (List.mem_range.mpr (B.lt s hs w hw))
        have h7 := hT s hs hg
        have h8 : T * (((List.range B.m).filter fun w => match x w with | some i => decide (i < j) | none => false).length + 1) ≤ T * ((List.range B.m).filter fun w => match x w with | some i => decide (i < k) | none => false).length := Nat.mul_le_mul_left T hlt
        rw [Nat.mul_add, Nat.mul_one] at h8
        omega
/-- .. -/
theorem Fix.top {B : Bd} {t : Nat → Nat} {g : Nat → Bool} {x : Vec} {T : Nat} (ht : ∀ s, g s = false → 1 ≤ t s) (hT : ∀ s, s < B.m → g s = false → t s ≤ T) (hx : Fix B t g x) {k s : Nat} (hs : s < B.m) (e : x s = some k) : k ≤ B.m * T := by
  have h1 := hx.bound ht hT k s hs e
  have h2 : ((List.range B.m).filter fun w => match x w with | some j => decide (j < k) | none => false).length ≤ B.m := by
    have := List.length_filter_le (fun w => match x w with | some j => decide (j < k) | none => false) (List.range B.m)
    simpa using this
  have h3 := Nat.mul_le_mul_left T h2
  rw [Nat.mul_comm B.m T]
  omega
def nones : List (Option Nat) → Nat
  | [] => 0
  | none :: l => nones l + 1
  | some _ :: l => nones l
def total : List (Option Nat) → Nat
  | [] => 0
  | none :: l => total l
  | some a :: l => a + total l
inductive AllLe : List (Option Nat) → List (Option Nat) → Prop
  | nil : AllLe [] []
  | cons {a b : Option Nat} {as bs : List (Option Nat)} : ole a b → AllLe as bs → AllLe (a :: as) (b :: bs)
theorem AllLe.less : ∀ {a b : List (Option Nat)}, AllLe a b → nones a ≤ nones b ∧ (nones a = nones b → total a ≤ total b ∧ (total a = total b → a = b))
  | _, _, .nil => ⟨Nat.le_refl _, fun _ => ⟨Nat.le_refl _, fun _ => rfl⟩⟩
  | _, _, .cons (a := a) (b := b) h t => by
    obtain ⟨h1, h2⟩ := AllLe.less t
    cases a with
    | none =>
      cases b with
      | none => exact ⟨Nat.succ_le_succ h1, fun e => ⟨(h2 (Nat.succ.inj e)).1, fun e2 => by rw [(h2 (Nat.succ.inj e)).2 e2]⟩⟩
      | some b => exact h.elim
    | some a =>
      cases b with
      | none => exact ⟨Nat.le_succ_of_le h1, fun e => by simp only [nones] at e; omega⟩
      | some b =>
        have h : a ≤ b := h
        refine ⟨h1, fun e => ?_⟩
        obtain ⟨h3, h4⟩ := h2 e
        refine ⟨Nat.add_le_add h h3, fun e2 => ?_⟩
        simp only [total] at e2
        have : a = b := by omega
        subst this
        rw [h4 (by omega)]
/-- less, first in the unknown ones, then in the sum -/
def Less (a b : List (Option Nat)) : Prop := Prod.Lex (· < ·) (· < ·) (nones a, total a) (nones b, total b)
theorem AllLe.lt {a b : List (Option Nat)} (h : AllLe a b) (ne : a ≠ b) : Less a b := by
  obtain ⟨h1, h2⟩ := h.less
  rcases Nat.lt_or_ge (nones a) (nones b) with c | c
  · exact .left _ _ c
  · have e : nones a = nones b := Nat.le_antisymm h1 c
    obtain ⟨h3, h4⟩ := h2 e
    unfold Less
    rw [e]
    refine .right _ ?_
    rcases Nat.lt_or_ge (total a) (total b) with d | d
    · exact d
    · exact (ne (h4 (Nat.le_antisymm h3 d))).elim
def one : Nat → Nat := fun _ => 1
/-- after k rounds -/
structure Rnd (B : Bd) (g : Nat → Bool) (v : Vec) (k : Nat) : Prop where
  le : ∀ s j, s < B.m → v s = some j → j ≤ k
  ex : ∀ s j, s < B.m → v s = some j → F B one g v s = some j
  no : ∀ s, s < B.m → v s = none → ole (some (k + 1)) (F B one g v s)
theorem Rnd.start {B : Bd} {g : Nat → Bool} {v : Vec} (h : ∀ s, s < B.m → v s = if g s then some 0 else none) : Rnd B g v 0 := by
  refine ⟨fun s j hs e => ?_, fun s j hs e => ?_, fun s hs e => ?_⟩
  · rw [h s hs] at e
    split at e
    · cases e; exact Nat.le_refl 0
    · cases e
  · rw [h s hs] at e
    split at e
    · rename_i hg
      cases e
      unfold F
      rw [if_pos hg]
    · cases e
  · rw [h s hs] at e
    split at e
    · cases e
    · rename_i hg
      unfold F
      rw [if_neg hg]
      cases best (B.own s) ((B.ways s).map v) with
      | none => trivial
      | some j => show 0 + 1 ≤ 1 + j; omega
end M47
set_option Elab.async false
set_option linter.all false
set_option maxRecDepth 100000
set_option maxHeartbeats 1000000
namespace Wg
abbrev Brd := List (Bool × List Nat)
def spD (p : Bool × List Nat) : D := .tup [.int (if p.1 then 0 else 1), .tup (nD p.2)]
def bD (b : Brd) : D := .tup (b.map spD)
def vD (v : List (Option Nat)) : D := .tup (v.map oD)
/-- a board as it is drawn -/
structure GB (b : Brd) : Prop where
  small : b.length ≤ 1000
  ne : ∀ p ∈ b, p.2 ≠ []
  lt : ∀ p ∈ b, ∀ w ∈ p.2, w < b.length
def spot (b : Brd) (s : Nat) : Bool × List Nat := b.getD s (true, [])
def toB (b : Brd) (h : GB b) : M47.Bd := ⟨b.length, fun s => (spot b s).1, fun s => (spot b s).2, fun s hs => h.ne _ (by unfold spot; simp [List.getD, hs]), fun s hs => h.lt _ (by unfold spot; simp [List.getD, hs])⟩
def vec (v : List (Option Nat)) : M47.Vec := fun s => v.getD s none
def tl (t : List Nat) : Nat → Nat := fun s => t.getD s 1
def gl (g : List Nat) : Nat → Bool := fun s => decide (s ∈ g)
/-- one step, as a list -/
def stepV (b : Brd) (h : GB b) (t g : List Nat) (v : List (Option Nat)) : List (Option Nat) := (List.range b.length).map fun s => M47.F (toB b h) (tl t) (gl g) (vec v) s
theorem spot_get {b : Brd} {s : Nat} (hs : s < b.length) : b[s]? = some (spot b s) := by
  unfold spot
  simp [List.getD, hs]
/-- where one begins -/
def startV (m : Nat) (g : List Nat) : List (Option Nat) := (List.range m).map fun s => if gl g s then some 0 else none
theorem startV_len {m : Nat} {g : List Nat} : (startV m g).length = m := by simp [startV]
theorem vec_stepV {b : Brd} {hb : GB b} {t g : List Nat} {v : List (Option Nat)} {s : Nat} (hs : s < b.length) : vec (stepV b hb t g v) s = M47.F (toB b hb) (tl t) (gl g) (vec v) s := by
  simp [vec, stepV, List.getD, hs]
/-- a vector is going down -/
def Down (b : Brd) (hb : GB b) (t g : List Nat) (v : List (Option Nat)) : Prop := v.length = b.length ∧ M47.Le (toB b hb) (vec (stepV b hb t g v)) (vec v)
theorem Down.start {b : Brd} {hb : GB b} {t g : List Nat} : Down b hb t g (startV b.length g) := by
  refine ⟨startV_len, fun s hs => ?_⟩
  have hs : s < b.length := hs
  rw [vec_stepV hs]
  have e : vec (startV b.length g) s = if gl g s then some 0 else none := by simp [vec, startV, List.getD, hs]
  rw [e]
  unfold M47.F
  split
  · exact M47.ole_refl _
  · exact M47.ole_none _
def pD (p : Bool) : D := .int (if p then 0 else 1)
end Wg
set_option Elab.async false
set_option linter.all false
set_option maxRecDepth 100000
set_option maxHeartbeats 1000000
namespace Wg
def gi (g : List Int) : Nat → Int := fun s => g.getD s 0
/-- what a spot needs -/
def needK (g : Int) (k : Nat) : Nat := (max (max 0 (-g)) ((k : Int) - g)).toNat
def needO (b : Brd) (g : List Int) (v : List (Option Nat)) (s : Nat) : Option Nat := (M47.best (spot b s).1 ((spot b s).2.map (vec v))).map (needK (gi g s))
/-- .. where those above a top are none -/
def capO (top : Int) (o : Option Nat) : Option Nat := match o with
  | none => none
  | some k => if (k : Int) > top then none else some k
def GO (b : Brd) (g : List Int) (top : Int) (v : List (Option Nat)) (s : Nat) : Option Nat := capO top (needO b g v s)
theorem vec_set {v : List (Option Nat)} {i : Nat} (hi : i < v.length) (o : Option Nat) (s : Nat) : vec (v.set i o) s = if s = i then o else vec v s := by
  simp only [vec, List.getD, List.getElem?_set]
  by_cases c : i = s
  · subst c; simp [hi]
  · have c2 : ¬ s = i := fun e => c e.symm
    simp [c, c2]
theorem capO_mono {top : Int} {a b : Option Nat} (h : M47.ole a b) : M47.ole (capO top a) (capO top b) := by
  cases b with
  | none => exact M47.ole_none _
  | some b =>
    obtain ⟨a, rfl, h⟩ := M47.ole_some h
    show M47.ole (if (a : Int) > top then none else some a) (if (b : Int) > top then none else some b)
    split <;> split
    · trivial
    · omega
    · trivial
    · exact h
theorem needK_mono {g : Int} {a b : Nat} (h : a ≤ b) : needK g a ≤ needK g b := by unfold needK; omega
theorem map_need {g : Int} {a b : Option Nat} (h : M47.ole a b) : M47.ole (a.map (needK g)) (b.map (needK g)) := by
  cases b with
  | none => exact M47.ole_none _
  | some b =>
    obtain ⟨a, rfl, h⟩ := M47.ole_some h
    exact needK_mono h
theorem GO_mono {b : Brd} (hb : GB b) {g : List Int} {top : Int} {v w : List (Option Nat)} (h : ∀ s, s < b.length → M47.ole (vec v s) (vec w s)) : ∀ s, s < b.length → M47.ole (GO b g top v s) (GO b g top w s) := fun s hs =>
  capO_mono (map_need (M47.best_mono fun w hw => h w ((toB b hb).lt s hs w hw)))
/-- on the way -/
structure Up (b : Brd) (g : List Int) (top : Int) (v : List (Option Nat)) : Prop where
  len : v.length = b.length
  tp : ∀ s k, s < b.length → vec v s = some k → (k : Int) ≤ top
  up : ∀ s, s < b.length → M47.ole (vec v s) (GO b g top v s)
  least : ∀ y : List (Option Nat), (∀ s, s < b.length → M47.ole (GO b g top y s) (vec y s)) → ∀ s, s < b.length → M47.ole (vec v s) (vec y s)
theorem Up.start {b : Brd} {g : List Int} {top : Int} (ht : 0 ≤ top) : Up b g top (List.replicate b.length (some 0)) := by
  have e : ∀ s, s < b.length → vec (List.replicate b.length (some 0)) s = some 0 := fun s hs => by simp [vec, List.getD, hs]
  have z : ∀ o : Option Nat, M47.ole (some 0) o := fun o => by
    cases o with
    | none => trivial
    | some k => exact Nat.zero_le k
  refine ⟨by simp, fun s k hs h => ?_, fun s hs => ?_, fun y _ s hs => ?_⟩
  · rw [e s hs] at h
    cases h
    exact ht
  · rw [e s hs]; exact z _
  · rw [e s hs]; exact z _
theorem Up.set {b : Brd} (hb : GB b) {g : List Int} {top : Int} {v : List (Option Nat)} (h : Up b g top v) {i : Nat} (hi : i < b.length) : Up b g top (v.set i (GO b g top v i)) := by
  have hiv : i < v.length := by rw [h.len]; exact hi
  have e := vec_set hiv (GO b g top v i)
  have le : ∀ s, s < b.length → M47.ole (vec v s) (vec (v.set i (GO b g top v i)) s) := fun s hs => by
    rw [e s]
    split
    · rename_i c; subst c; exact h.up s hs
    · exact M47.ole_refl _
  refine ⟨by rw [List.length_set]; exact h.len, fun s k hs q => ?_, fun s hs => ?_, fun y hy s hs => ?_⟩
  · rw [e s] at q
    split at q
    · unfold GO capO at q
      split at q
      · cases q
      · split at q
        · cases q
        · cases q; omega
    · exact h.tp s k hs q
  · refine M47.ole_trans ?_ (GO_mono hb le s hs)
    rw [e s]
    split
    · rename_i c; subst c; exact M47.ole_refl _
    · exact h.up s hs
  · rw [e s]
    split
    · rename_i c
      subst c
      exact M47.ole_trans (GO_mono hb (h.least y hy) s hs) (hy s hs)
    · exact h.least y hy s hs
end Wg
set_option Elab.async false
set_option linter.all false
set_option maxRecDepth 100000
set_option maxHeartbeats 1000000
namespace Wg
theorem leD_nat (a b : Nat) : leD (.int (a : Int)) (.int (b : Int)) = decide (a ≤ b) := by
  unfold leD
  rw [lt_nat, Bool.eq_iff_iff]
  simp
/-- numbers in order -/
def srt (l : List Nat) : List Nat := l.mergeSort fun a b => decide (a ≤ b)
theorem srt_perm (l : List Nat) : (srt l).Perm l := List.mergeSort_perm _ _
theorem sortD_nD (l : List Nat) : sortD (nD l) = nD (srt l) := by
  unfold sortD nD srt
  exact (List.map_mergeSort fun a _ b _ => (leD_nat a b).symm).symm
theorem alike_sortable (l : List Nat) : allAlike (nD l) ∧ sortable (nD l) := ⟨alike_nD l, .inr fun x hx => by
  obtain ⟨k, _, rfl⟩ := List.mem_map.mp hx
  rfl⟩
end Wg
set_option Elab.async false
set_option linter.all false
set_option maxRecDepth 100000
set_option maxHeartbeats 1000000
namespace Wg
/-- a comprehension whose items are numbers -/
theorem lcW_nums {α : Type} {step : D → Env → (Option D → Env → Prop) → Prop} {ρ : Env} {Q : List D → Env → Prop} (f : α → D) (R : α → Nat → Prop) : ∀ (l : List α) (acc : List D), (∀ a ∈ l, ∀ K : Option D → Env → Prop, (∀ k : Nat, R a k → K (some (.int (k : Int))) ρ) → step (f a) ρ K) →
    (∀ ks : List Nat, All2 R l ks → Q (acc ++ nD ks) ρ) → lcW step (l.map f) acc ρ Q
  | [], acc, _, q => by
    have := q [] .nil
    have e : acc ++ nD [] = acc := by simp [nD]
    rw [e] at this
    exact this
  | x :: xs, acc, h, q => by
    refine h x List.mem_cons_self _ fun k hk => ?_
    refine lcW_nums f R xs _ (fun a ha => h a (List.mem_cons_of_mem _ ha)) fun ks hks => ?_
    have := q (k :: ks) (.cons hk hks)
    have e : acc ++ nD (k :: ks) = acc ++ [D.int (k : Int)] ++ nD ks := by simp [nD]
    rw [e] at this
    exact this
theorem lcW_nums0 {α : Type} {step : D → Env → (Option D → Env → Prop) → Prop} {ρ : Env} {Q : List D → Env → Prop} (f : α → D) (R : α → Nat → Prop) (l : List α) (h : ∀ a ∈ l, ∀ K : Option D → Env → Prop, (∀ k : Nat, R a k → K (some (.int (k : Int))) ρ) → step (f a) ρ K)
    (q : ∀ ks : List Nat, All2 R l ks → Q (nD ks) ρ) : lcW step (l.map f) [] ρ Q := lcW_nums f R l [] h q
theorem All2.length {α β : Type} {R : α → β → Prop} : ∀ {l : List α} {m : List β}, All2 R l m → l.length = m.length
  | _, _, .nil => rfl
  | _, _, .cons _ t => congrArg (· + 1) t.length
theorem All2.get {α β : Type} {R : α → β → Prop} : ∀ {l : List α} {m : List β}, All2 R l m → ∀ {i : Nat} {a : α} {b : β}, l[i]? = some a → m[i]? = some b → R a b
  | _, _, .nil, _, _, _, h, _ => by simp at h
  | _, _, .cons r t, 0, _, _, h, g => by simp at h g; subst h g; exact r
  | _, _, .cons r t, i + 1, _, _, h, g => t.get (i := i) (by simpa using h) (by simpa using g)
end Wg
set_option Elab.async false
set_option linter.all false
set_option maxRecDepth 100000
set_option maxHeartbeats 4000000
namespace Wg
end Wg
set_option Elab.async false
set_option linter.all false
set_option maxRecDepth 100000
set_option maxHeartbeats 1000000
namespace Wg
abbrev Dk (β : Type) := List (Nat × β)
def kvE {β : Type} (e : β → D) (m : Dk β) : List (D × D) := m.map fun p => (.int (p.1 : Int), e p.2)
def getN {β : Type} : Dk β → Nat → Option β
  | [], _ => none
  | p :: ps, k => if p.1 = k then some p.2 else getN ps k
def putN {β : Type} (m : Dk β) (k : Nat) (v : β) : Dk β := if (getN m k).isSome then m.map fun p => if p.1 = k then (p.1, v) else p else m ++ [(k, v)]
def putAllN {β : Type} (m l : Dk β) : Dk β := l.foldl (fun m p => putN m p.1 p.2) m
section
variable {β : Type} {e : β → D} {m l : Dk β} {k j n : Nat} {v : β}
theorem look_kv (e : β → D) (m : Dk β) (k : Nat) : lookD (kvE e m) (.int (k : Int)) = (getN m k).map e := by
  induction m with
  | nil => rfl
  | cons p ps ih =>
    show (if D.eqv (.int (p.1 : Int)) (.int (k : Int)) then some (e p.2) else lookD (kvE e ps) (.int (k : Int))) = (if p.1 = k then some p.2 else getN ps k).map e
    rw [eqv_nat]
    by_cases h : p.1 = k
    · simp [h]
    · simp [h, ih]
theorem look_some (e : β → D) (m : Dk β) (k : Nat) : (lookD (kvE e m) (.int (k : Int))).isSome = (getN m k).isSome := by rw [look_kv]; simp
theorem put_kv (e : β → D) (m : Dk β) (k : Nat) (v : β) : putD (kvE e m) (.int (k : Int)) (e v) = kvE e (putN m k v) := by
  unfold putD putN
  rw [look_some]
  by_cases h : (getN m k).isSome = true
  · rw [if_pos h, if_pos h]
    unfold kvE
    rw [List.map_map, List.map_map]
    refine List.map_congr_left fun p _ => ?_
    show (if D.eqv (.int (p.1 : Int)) (.int (k : Int)) = true then (D.int (p.1 : Int), e v) else (.int (p.1 : Int), e p.2)) = (fun p : Nat × β => (D.int (p.1 : Int), e p.2)) (if p.1 = k then (p.1, v) else p)
    rw [eqv_nat]
    by_cases h : p.1 = k <;> simp [h]
  · rw [if_neg h, if_neg h]
    unfold kvE
    rw [List.map_append]; rfl
theorem leaf_kv (e : β → D) (m : Dk β) : ((kvE e m).all fun p => D.leaf p.1) = true := by
  unfold kvE
  simp only [List.all_map, List.all_eq_true]
  intro p _; rfl
theorem keysOk_kv (e : β → D) (m : Dk β) (k : Nat) : keysOk (kvE e m) (.int (k : Int)) = true := by
  unfold keysOk
  rw [leaf_kv]; rfl
theorem putAll_kv (e : β → D) : ∀ (l m : Dk β), putAll (kvE e m) (kvE e l) = kvE e (putAllN m l)
  | [], m => rfl
  | p :: l, m => by
    show putAll (putD (kvE e m) (.int (p.1 : Int)) (e p.2)) (kvE e l) = kvE e (putAllN (putN m p.1 p.2) l)
    rw [put_kv, putAll_kv]
theorem leafs_kv (e : β → D) (m l : Dk β) : ((kvE e m ++ kvE e l).all fun p => D.leaf p.1) = true := by rw [List.all_append, leaf_kv, leaf_kv]; rfl
theorem keys_kv (e : β → D) (m : Dk β) : (kvE e m).map (·.1) = nD (m.map Prod.fst) := by unfold kvE nD; rw [List.map_map, List.map_map]; rfl
theorem kv_len (e : β → D) (m : Dk β) : (kvE e m).length = m.length := List.length_map ..
theorem getN_some_iff : ∀ {m : Dk β} {k : Nat}, (getN m k).isSome = true ↔ k ∈ m.map Prod.fst
  | [], k => by simp [getN]
  | p :: ps, k => by
    unfold getN
    by_cases h : p.1 = k
    · simp [h]
    · rw [if_neg h, getN_some_iff (m := ps)]
      simp only [List.map_cons, List.mem_cons]
      exact ⟨.inr, fun z => z.resolve_left fun e => h e.symm⟩
theorem getN_append : ∀ {m : Dk β} {k : Nat}, getN m k = none → ∀ (l : Dk β), getN (m ++ l) k = getN l k
  | [], _, _, _ => rfl
  | p :: ps, k, h, l => by
    unfold getN at h
    split at h
    · cases h
    · rename_i hp
      show (if p.1 = k then _ else getN (ps ++ l) k) = _
      rw [if_neg hp]
      exact getN_append h l
theorem getN_append_some : ∀ {m : Dk β} {k : Nat}, (getN m k).isSome = true → ∀ (l : Dk β), getN (m ++ l) k = getN m k
  | p :: ps, k, h, l => by
    unfold getN at h
    show (if p.1 = k then some p.2 else getN (ps ++ l) k) = (if p.1 = k then some p.2 else getN ps k)
    split at h
    · rename_i hp; rw [if_pos hp, if_pos hp]
    · rename_i hp
      rw [if_neg hp, if_neg hp]
      exact getN_append_some h l
theorem getN_repl : ∀ (m : Dk β) (k : Nat) (v : β) (j : Nat), getN (m.map fun p => if p.1 = k then (p.1, v) else p) j = if j = k then (getN m k).map (fun _ => v) else getN m j
  | [], k, v, j => by simp [getN]
  | p :: ps, k, v, j => by
    rw [List.map_cons]
    unfold getN
    rw [getN_repl ps k v j]
    by_cases h1 : p.1 = k
    · subst h1
      by_cases h2 : p.1 = j
      · subst h2; simp
      · simp [h2, show ¬ j = p.1 from fun e => h2 e.symm]
    · by_cases h2 : p.1 = j
      · subst h2; simp [h1]
      · simp [h1, h2]
theorem getN_put (m : Dk β) (k : Nat) (v : β) (j : Nat) : getN (putN m k v) j = if j = k then some v else getN m j := by
  unfold putN
  by_cases h : (getN m k).isSome = true
  · rw [if_pos h, getN_repl]
    obtain ⟨x, hx⟩ := Option.isSome_iff_exists.mp h
    rw [hx]; rfl
  · rw [if_neg h]
    have h : getN m k = none := by simpa using h
    by_cases e : j = k
    · subst e
      rw [getN_append h]; simp [getN]
    · rw [if_neg e]
      cases hj : getN m j with
      | none => rw [getN_append hj]; simp [getN, show ¬ k = j from fun z => e z.symm]
      | some x => rw [getN_append_some (by rw [hj]; rfl), hj]
theorem getN_putAll : ∀ (l m : Dk β) (f : Nat → Option β), (∀ p ∈ l, f p.1 = some p.2) → ∀ j, getN (putAllN m l) j = if j ∈ l.map Prod.fst then f j else getN m j
  | [], m, f, _, j => by simp [putAllN]
  | p :: l, m, f, h, j => by
    show getN (putAllN (putN m p.1 p.2) l) j = _
    rw [getN_putAll l _ f (fun q hq => h q (List.mem_cons_of_mem _ hq)) j, getN_put]
    by_cases h1 : j ∈ l.map Prod.fst
    · rw [if_pos h1, if_pos (by simp only [List.map_cons, List.mem_cons]; exact .inr h1)]
    · rw [if_neg h1]
      by_cases h2 : j = p.1
      · rw [if_pos h2, if_pos (by simp [h2]), h2, h p List.mem_cons_self]
      · rw [if_neg h2, if_neg (by simp only [List.map_cons, List.mem_cons]; exact fun z => z.elim h2 h1)]
/-- its keys are different and below n -/
structure DOk (n : Nat) (m : Dk β) : Prop where
  nd : (m.map Prod.fst).Nodup
  lt : ∀ k ∈ m.map Prod.fst, k < n
theorem len_le : ∀ (n : Nat) (K : List Nat), K.Nodup → (∀ k ∈ K, k < n) → K.length ≤ n
  | 0, [], _, _ => Nat.le_refl _
  | 0, k :: K, _, h => absurd (h k List.mem_cons_self) (Nat.not_lt_zero _)
  | n + 1, K, nd, h => by
    have h1 := len_le n (K.erase n) (nd.erase n) fun k hk => by
      have h2 := (nd.mem_erase_iff.mp hk)
      have := h k h2.2
      omega
    rw [List.length_erase] at h1
    split at h1 <;> omega
theorem DOk.len (h : DOk n m) : m.length ≤ n := by
  have := len_le n _ h.nd h.lt
  simpa using this
theorem DOk.nil : DOk n ([] : Dk β) := ⟨List.Pairwise.nil, fun _ h => nomatch h⟩
theorem DOk.get (h : DOk n m) : ∀ p ∈ m, getN m p.1 = some p.2 := by
  obtain ⟨nd, lt⟩ := h
  clear lt
  induction m with
  | nil => exact fun _ h => nomatch h
  | cons q m ih =>
    rw [List.map_cons, List.nodup_cons] at nd
    intro p hp
    unfold getN
    rcases List.mem_cons.mp hp with e | e
    · subst e; rw [if_pos rfl]
    · rw [if_neg fun z : q.1 = p.1 => nd.1 (z ▸ List.mem_map_of_mem e)]
      exact ih nd.2 p e
theorem putN_keys (m : Dk β) (k : Nat) (v : β) : (putN m k v).map Prod.fst = if (getN m k).isSome then m.map Prod.fst else m.map Prod.fst ++ [k] := by
  unfold putN
  split
  · rw [List.map_map]
    refine List.map_congr_left fun p _ => ?_
    show (if p.1 = k then (p.1, v) else p).1 = p.1
    split <;> rfl
  · rw [List.map_append]; rfl
theorem DOk.put (h : DOk n m) (hk : k < n) (v : β) : DOk n (putN m k v) := by
  have e := putN_keys m k v
  by_cases c : (getN m k).isSome = true
  · rw [if_pos c] at e
    exact ⟨by rw [e]; exact h.nd, by rw [e]; exact h.lt⟩
  · rw [if_neg c] at e
    refine ⟨?_, ?_⟩
    · rw [e, List.nodup_append]
      refine ⟨h.nd, by simp, fun a ha b hb => ?_⟩
      simp at hb
      subst hb
      rintro rfl
      exact c (getN_some_iff.mpr ha)
    · rw [e]
      intro j hj
      rcases List.mem_append.mp hj with z | z
      · exact h.lt j z
      · simp at z; omega
theorem DOk.putAll : ∀ {l m : Dk β}, DOk n m → (∀ p ∈ l, p.1 < n) → DOk n (putAllN m l)
  | [], _, h, _ => h
  | p :: l, m, h, hl => DOk.putAll (l := l) (h.put (hl p List.mem_cons_self) p.2) fun q hq => hl q (List.mem_cons_of_mem _ hq)
theorem DOk.all (h : DOk n m) : ∀ p ∈ m, p.1 < n := fun p hp => h.lt _ (List.mem_map_of_mem hp)
/-- one dict into another -/
theorem getN_upd (hl : DOk n l) (m : Dk β) (j : Nat) : getN (putAllN m l) j = (getN l j).or (getN m j) := by
  rw [getN_putAll l m (getN l) hl.get j]
  by_cases h : j ∈ l.map Prod.fst
  · rw [if_pos h]
    obtain ⟨x, hx⟩ := Option.isSome_iff_exists.mp (getN_some_iff.mpr h)
    rw [hx]; rfl
  · rw [if_neg h]
    have : getN l j = none := by
      cases e : getN l j with
      | none => rfl
      | some x => exact (h (getN_some_iff.mp (by rw [e]; rfl))).elim
    rw [this]; rfl
/-- a dict by a comprehension -/
def byN (l : List Nat) (c : Nat → Bool) (f : Nat → β) : Dk β := putAllN [] ((l.filter c).map fun s => (s, f s))
theorem getN_by (l : List Nat) (c : Nat → Bool) (f : Nat → β) (j : Nat) : getN (byN l c f) j = if j ∈ l ∧ c j = true then some (f j) else none := by
  unfold byN
  rw [getN_putAll _ [] (fun s => some (f s)) (fun p hp => by
    obtain ⟨s, _, rfl⟩ := List.mem_map.mp hp; rfl) j]
  have : j ∈ ((l.filter c).map fun s => (s, f s)).map Prod.fst ↔ j ∈ l ∧ c j = true := by
    rw [List.map_map]
    have e : (Prod.fst ∘ fun s => (s, f s)) = (id : Nat → Nat) := rfl
    rw [e, List.map_id, List.mem_filter]
  by_cases h : j ∈ l ∧ c j = true
  · rw [if_pos (this.mpr h), if_pos h]
  · rw [if_neg fun z => h (this.mp z), if_neg h]; rfl
theorem DOk.by (l : List Nat) (c : Nat → Bool) (f : Nat → β) (h : ∀ s ∈ l, s < n) : DOk n (byN l c f) :=
  DOk.putAll .nil fun p hp => by
    obtain ⟨s, hs, rfl⟩ := List.mem_map.mp hp
    exact h s (List.mem_filter.mp hs).1
theorem dcW_by {step : D → Env → (Option (D × D) → Env → Prop) → Prop} {ρ : Env} {Q : List (D × D) → Env → Prop} (e : β → D) (l : List Nat) (c : Nat → Bool) (f : Nat → β)
    (h : ∀ s ∈ l, ∀ K : Option (D × D) → Env → Prop, K (if c s = true then some (.int (s : Int), e (f s)) else none) ρ → step (.int (s : Int)) ρ K) (q : Q (kvE e (byN l c f)) ρ) : dcW step (nD l) [] ρ Q := by
  have gen : ∀ (l : List Nat) (m : Dk β), (∀ s ∈ l, ∀ K : Option (D × D) → Env → Prop, K (if c s = true then some (.int (s : Int), e (f s)) else none) ρ → step (.int (s : Int)) ρ K) → Q (kvE e (putAllN m ((l.filter c).map fun s => (s, f s)))) ρ → dcW step (nD l) (kvE e m) ρ Q := by
    intro l
    induction l with
    | nil => exact fun m _ q => q
    | cons a l ih =>
      intro m h q
      refine h a List.mem_cons_self _ ?_
      by_cases hc : c a = true
      · rw [if_pos hc]
        refine ⟨keysOk_kv e m a, ?_⟩
        rw [put_kv]
        refine ih _ (fun s hs => h s (List.mem_cons_of_mem _ hs)) ?_
        rw [List.filter_cons_of_pos hc] at q
        exact q
      · rw [if_neg hc]
        refine ih m (fun s hs => h s (List.mem_cons_of_mem _ hs)) ?_
        rw [List.filter_cons_of_neg hc] at q
        exact q
  exact gen l [] h q
end
def nI (n : Nat) : D := .int (n : Int)
def tI (_ : Unit) : D := .bl true
end Wg
set_option Elab.async false
set_option linter.all false
namespace MP
/-- a walk of at least one step from s to t; m: the greatest level on it, the last spot left out -/
inductive Wlk (E : Nat → Nat → Prop) (lev : Nat → Nat) : Nat → Nat → Nat → Prop
  | one {s t : Nat} : E s t → Wlk E lev s t (lev s)
  | cons {s u t m : Nat} : E s u → Wlk E lev u t m → Wlk E lev s t (max (lev s) m)
section
variable {E E' : Nat → Nat → Prop} {lev : Nat → Nat} {s t u m n : Nat}
theorem Wlk.mono (h : ∀ a b, E a b → E' a b) (w : Wlk E lev s t m) : Wlk E' lev s t m := by
  induction w with
  | one e => exact .one (h _ _ e)
  | cons e _ ih => exact .cons (h _ _ e) ih
theorem Wlk.trans (w : Wlk E lev s t m) (v : Wlk E lev t u n) : Wlk E lev s u (max m n) := by
  induction w with
  | one e => exact .cons e v
  | cons e _ ih =>
    have := Wlk.cons e (ih v)
    rw [Nat.max_assoc]
    exact this
/-- all in B, or through a spot out of it -/
theorem Wlk.through (B : Nat → Prop) (w : Wlk E lev s t m) : Wlk (fun a b => E a b ∧ B a) lev s t m ∨ ∃ u, ¬ B u ∧ ((u = s) ∨ ∃ m1 m2, Wlk E lev s u m1 ∧ Wlk E lev u t m2 ∧ m = max m1 m2) := by
  induction w with
  | one e =>
    rename_i a b
    by_cases h : B a
    · exact .inl (.one ⟨e, h⟩)
    · exact .inr ⟨a, h, .inl rfl⟩
  | cons e w ih =>
    rename_i a c b m
    by_cases h : B a
    · rcases ih with ih | ⟨u, hu, ih⟩
      · exact .inl (.cons ⟨e, h⟩ ih)
      · refine .inr ⟨u, hu, .inr ?_⟩
        rcases ih with rfl | ⟨m1, m2, w1, w2, rfl⟩
        · exact ⟨lev a, m, .one e, w, rfl⟩
        · exact ⟨_, m2, .cons e w1, w2, by rw [Nat.max_assoc]⟩
    · exact .inr ⟨a, h, .inl rfl⟩
/-- a closed walk: all in B, or closed at a spot out of it -/
theorem Wlk.ring (B : Nat → Prop) (w : Wlk E lev s s m) : Wlk (fun a b => E a b ∧ B a) lev s s m ∨ ∃ u, ¬ B u ∧ Wlk E lev u u m := by
  rcases w.through B with h | ⟨u, hu, rfl | ⟨m1, m2, w1, w2, rfl⟩⟩
  · exact .inl h
  · exact .inr ⟨u, hu, w⟩
  · exact .inr ⟨u, hu, by rw [Nat.max_comm]; exact w2.trans w1⟩
theorem Wlk.le {k : Nat} (h : ∀ a b, E a b → lev a ≤ k) (w : Wlk E lev s t m) : m ≤ k := by
  induction w with
  | one e => exact h _ _ e
  | cons e _ ih => exact Nat.max_le.mpr ⟨h _ _ e, ih⟩
theorem Wlk.ge (w : Wlk E lev s t m) : lev s ≤ m := by
  cases w with
  | one e => exact Nat.le_refl _
  | cons e _ => exact Nat.le_max_left _ _
/-- where each step goes down, no walk is closed -/
theorem Wlk.down {A : Nat → Prop} {rk : Nat → Nat} (h : ∀ a b, E a b → A a → A b ∧ rk b < rk a) (w : Wlk E lev s t m) (hs : A s) : A t ∧ rk t < rk s := by
  induction w with
  | one e => exact h _ _ e hs
  | cons e _ ih =>
    obtain ⟨h1, h2⟩ := h _ _ e hs
    obtain ⟨h3, h4⟩ := ih h1
    exact ⟨h3, Nat.lt_trans h4 h2⟩
/-- what walks do not leave -/
theorem Wlk.stay {A : Nat → Prop} (h : ∀ a b, E a b → A a → A b) (w : Wlk E lev s t m) (hs : A s) : Wlk (fun a b => E a b ∧ A a) lev s t m ∧ A t := by
  induction w with
  | one e => exact ⟨.one ⟨e, hs⟩, h _ _ e hs⟩
  | cons e _ ih =>
    obtain ⟨h1, h2⟩ := ih (h _ _ e hs)
    exact ⟨.cons ⟨e, hs⟩ h1, h2⟩
end
/-- who moves, where to, the levels -/
structure G where
  own : Nat → Bool
  ways : Nat → List Nat
  lev : Nat → Nat
abbrev St := Nat → Prop
abbrev Sg := Nat → Option Nat
/-- the moves among W when p keeps to σ -/
def Ed (g : G) (p : Bool) (X W : St) (σ : Sg) (s t : Nat) : Prop := W s ∧ t ∈ g.ways s ∧ X t ∧ (g.own s = p → σ s = some t)
/-- among X, p wins from W by σ -/
structure Win (g : G) (X : St) (p : Bool) (W : St) (σ : Sg) : Prop where
  sub : ∀ s, W s → X s
  mine : ∀ s, W s → g.own s = p → ∃ w, σ s = some w ∧ w ∈ g.ways s ∧ W w
  other : ∀ s, W s → g.own s ≠ p → ∀ w ∈ g.ways s, X w → W w
  ring : ∀ s m, Wlk (Ed g p X W σ) g.lev s s m → (m % 2 == 0) = p
section
variable {g : G} {X X' W W' A : St} {p q : Bool} {σ τ : Sg}
theorem Win.congr (h : Win g X p W σ) (e : ∀ s, W s → g.own s = p → τ s = σ s) : Win g X p W τ :=
  ⟨h.sub, fun s hs ho => by rw [e s hs ho]; exact h.mine s hs ho, h.other, fun s m w => h.ring s m (w.mono fun a b ⟨h1, h2, h3, h4⟩ => ⟨h1, h2, h3, fun ho => by rw [← e a h1 ho]; exact h4 ho⟩)⟩
theorem Win.iff (h : Win g X p W σ) (e : ∀ s, W s ↔ W' s) : Win g X p W' σ := by
  have : W = W' := funext fun s => propext (e s)
  rw [← this]; exact h
theorem Win.none : Win g X p (fun _ => False) σ := ⟨fun _ h => h.elim, fun _ h => h.elim, fun _ h => h.elim, fun s m w => by
  cases w with
  | one e => exact e.1.elim
  | cons e _ => exact e.1.elim⟩
theorem Ed.win (h : Win g X p W σ) {a b : Nat} (e : Ed g p X W σ a b) : W b := by
  by_cases ho : g.own a = p
  · obtain ⟨w, h1, _, h3⟩ := h.mine a e.1 ho
    have := e.2.2.2 ho
    rw [h1] at this
    cases this
    exact h3
  · exact h.other a e.1 ho b e.2.1 e.2.2.1
/-- p draws A to the goal among X, by ch -/
structure Att (g : G) (X : St) (p : Bool) (goal A : St) (ch : Sg) : Prop where
  sub : ∀ s, A s → X s
  inn : ∀ s, goal s → A s
  dom : ∀ s w, ch s = some w → A s ∧ ¬ goal s ∧ g.own s = p
  draw : ∃ rk : Nat → Nat, ∀ s, A s → ¬ goal s → (g.own s = p → ∃ w, ch s = some w ∧ w ∈ g.ways s ∧ A w ∧ rk w < rk s) ∧ (g.own s ≠ p → ∀ w ∈ g.ways s, X w → A w ∧ rk w < rk s)
  out : ∀ s, X s → ¬ A s → (g.own s = p → ∀ w ∈ g.ways s, X w → ¬ A w) ∧ (g.own s ≠ p → ∃ w ∈ g.ways s, X w ∧ ¬ A w)
/-- a board of its own -/
def Sub (g : G) (X : St) : Prop := ∀ s, X s → ∃ w ∈ g.ways s, X w
theorem Att.rest {goal : St} {ch : Sg} (h : Att g X p goal A ch) (hX : Sub g X) : Sub g (fun s => X s ∧ ¬ A s) := fun s ⟨h1, h2⟩ => by
  obtain ⟨o1, o2⟩ := h.out s h1 h2
  by_cases ho : g.own s = p
  · obtain ⟨w, hw, hx⟩ := hX s h1
    exact ⟨w, hw, hx, o1 ho w hw hx⟩
  · obtain ⟨w, hw, hx, hn⟩ := o2 ho
    exact ⟨w, hw, hx, hn⟩
/-- a closed walk of the player's moves comes to the goal, or never to A -/
theorem Att.rings {goal : St} {ch : Sg} (h : Att g X p goal A ch) (hs : ∀ s, A s → ¬ goal s → g.own s = p → σ s = ch s) {s m : Nat} (w : Wlk (Ed g p X W σ) g.lev s s m) :
    Wlk (fun a b => Ed g p X W σ a b ∧ ¬ A a) g.lev s s m ∨ ∃ u, goal u ∧ Wlk (Ed g p X W σ) g.lev u u m := by
  obtain ⟨rk, hr⟩ := h.draw
  rcases w.ring (fun a => ¬ goal a) with w1 | ⟨u, hu, w1⟩
  · rcases w1.ring (fun a => ¬ A a) with w2 | ⟨u, hu, w2⟩
    · exact .inl (w2.mono fun a b e => ⟨e.1.1, e.2⟩)
    · have hu : A u := Classical.not_not.mp hu
      have := (w2.down (A := A) (rk := rk) (fun a b e ha => by
        obtain ⟨r1, r2⟩ := hr a ha e.2
        by_cases ho : g.own a = p
        · obtain ⟨w, h1, h2, h3, h4⟩ := r1 ho
          have := e.1.2.2.2 ho
          rw [hs a ha e.2 ho, h1] at this
          cases this
          exact ⟨h3, h4⟩
        · exact r2 ho b e.1.2.1 e.1.2.2.1) hu).2
      exact (Nat.lt_irrefl _ this).elim
  · exact .inr ⟨u, Classical.not_not.mp hu, w1⟩
/-- the player of the top level wins all, where the rest is the player's, too -/
theorem win_all {top : Nat} {ch : Sg} (hX : Sub g X) (hp : (top % 2 == 0) = p) (hle : ∀ s, X s → g.lev s ≤ top) (hA : Att g X p (fun s => X s ∧ g.lev s = top) A ch) (hI : Win g (fun s => X s ∧ ¬ A s) p (fun s => X s ∧ ¬ A s) σ)
    (h1 : ∀ s, A s → ¬ (X s ∧ g.lev s = top) → g.own s = p → σ s = ch s) (h2 : ∀ s, X s → g.lev s = top → g.own s = p → ∃ w, σ s = some w ∧ w ∈ g.ways s ∧ X w) : Win g X p X σ := by
  refine ⟨fun s h => h, fun s hs ho => ?_, fun s _ _ w _ hx => hx, fun s m w => ?_⟩
  · by_cases ha : A s
    · by_cases hg : g.lev s = top
      · exact h2 s hs hg ho
      · obtain ⟨rk, hr⟩ := hA.draw
        have hng : ¬ (X s ∧ g.lev s = top) := fun h => hg h.2
        obtain ⟨w, e1, e2, e3, _⟩ := (hr s ha hng).1 ho
        exact ⟨w, by rw [h1 s ha hng ho]; exact e1, e2, hA.sub w e3⟩
    · obtain ⟨w, e1, e2, e3⟩ := hI.mine s ⟨hs, ha⟩ ho
      exact ⟨w, e1, e2, e3.1⟩
  · rcases hA.rings (W := X) (σ := σ) h1 w with w1 | ⟨u, hu, w1⟩
    · refine hI.ring s m ?_
      -- the walk stays out of A
      rcases w1.ring (fun a => ¬ A a) with w2 | ⟨u, hu, w2⟩
      · refine Wlk.mono ?_ (closed w1)
        exact fun a b e => e
      · cases w2 with
        | one e => exact (hu e.2).elim
        | cons e _ => exact (hu e.2).elim
    · have l := w1.le (k := top) fun a b e => hle a e.1
      have l2 := w1.ge
      rw [hu.2] at l2
      rw [Nat.le_antisymm l l2]
      exact hp
where
  closed {s m : Nat} (w : Wlk (fun a b => Ed g p X X σ a b ∧ ¬ A a) g.lev s s m) : Wlk (Ed g p (fun s => X s ∧ ¬ A s) (fun s => X s ∧ ¬ A s) σ) g.lev s s m := by
    have gen : ∀ {s t m}, Wlk (fun a b => Ed g p X X σ a b ∧ ¬ A a) g.lev s t m → ¬ A t → Wlk (Ed g p (fun s => X s ∧ ¬ A s) (fun s => X s ∧ ¬ A s) σ) g.lev s t m := by
      intro s t m w
      induction w with
      | one e => exact fun ht => .one ⟨⟨e.1.1, e.2⟩, e.1.2.1, ⟨e.1.2.2.1, ht⟩, e.1.2.2.2⟩
      | cons e w ih =>
        intro ht
        rename_i a c b m
        have hu : ¬ A c := by
          cases w with
          | one e2 => exact e2.2
          | cons e2 _ => exact e2.2
        exact .cons ⟨⟨e.1.1, e.2⟩, e.1.2.1, ⟨e.1.2.2.1, hu⟩, e.1.2.2.2⟩ (ih ht)
    refine gen w ?_
    cases w with
    | one e => exact e.2
    | cons e _ => exact e.2
/-- what the other one wins of the rest draws more -/
theorem win_gone {ch ch2 : Sg} {goal L B : St} (hp : q ≠ p) (hA : Att g X p goal A ch) (hI : Win g (fun s => X s ∧ ¬ A s) q L σ) (hB : Att g X q L B ch2) (h1 : ∀ s, B s → ¬ L s → g.own s = q → σ s = ch2 s) : Win g X q B σ := by
  obtain ⟨rk, hr⟩ := hB.draw
  have own : ∀ s, g.own s ≠ q → g.own s = p := fun s h => by
    cases h1 : g.own s <;> cases p <;> cases q <;> simp_all
  -- L is closed among X
  have cl : ∀ s, L s → g.own s ≠ q → ∀ w ∈ g.ways s, X w → L w := fun s hs ho w hw hx => by
    have := hI.sub s hs
    exact hI.other s hs ho w hw ⟨hx, (hA.out s this.1 this.2).1 (own s ho) w hw hx⟩
  refine ⟨hB.sub, fun s hs ho => ?_, fun s hs ho w hw hx => ?_, fun s m w => ?_⟩
  · by_cases hl : L s
    · obtain ⟨w, e1, e2, e3⟩ := hI.mine s hl ho
      exact ⟨w, e1, e2, hB.inn w e3⟩
    · obtain ⟨w, e1, e2, e3, _⟩ := (hr s hs hl).1 ho
      exact ⟨w, by rw [h1 s hs hl ho]; exact e1, e2, e3⟩
  · by_cases hl : L s
    · exact hB.inn w (cl s hl ho w hw hx)
    · exact ((hr s hs hl).2 ho w hw hx).1
  · rcases hB.rings (W := B) (σ := σ) h1 w with w1 | ⟨u, hu, w1⟩
    · cases w1 with
      | one e => exact (e.2 e.1.1).elim
      | cons e _ => exact (e.2 e.1.1).elim
    · -- from L on, it stays there
      have st := w1.stay (A := L) (fun a b e ha => by
        by_cases ho : g.own a = q
        · obtain ⟨w, h3, _, h4⟩ := hI.mine a ha ho
          have := e.2.2.2 ho
          rw [h3] at this
          cases this
          exact h4
        · exact cl a ha ho b e.2.1 e.2.2.1) hu
      refine hI.ring u m (st.1.mono fun a b e => ?_)
      have hb : L b := by
        by_cases ho : g.own a = q
        · obtain ⟨w, h3, _, h4⟩ := hI.mine a e.2 ho
          have := e.1.2.2.2 ho
          rw [h3] at this
          cases this
          exact h4
        · exact cl a e.2 ho b e.1.2.1 e.1.2.2.1
      exact ⟨e.2, e.1.2.1, hI.sub b hb, e.1.2.2.2⟩
/-- the rest's wins, behind what is gone: the same player -/
theorem win_same {B L : St} {ch : Sg} (hB : Att g X q L B ch) (hG : Win g X q B σ) (hW : Win g (fun s => X s ∧ ¬ B s) q W σ) : Win g X q (fun s => W s ∨ B s) σ := by
  refine ⟨fun s hs => ?_, fun s hs ho => ?_, fun s hs ho w hw hx => ?_, fun s m w => ?_⟩
  · rcases hs with h | h
    · exact (hW.sub s h).1
    · exact hG.sub s h
  · rcases hs with h | h
    · obtain ⟨w, e1, e2, e3⟩ := hW.mine s h ho; exact ⟨w, e1, e2, .inl e3⟩
    · obtain ⟨w, e1, e2, e3⟩ := hG.mine s h ho; exact ⟨w, e1, e2, .inr e3⟩
  · rcases hs with h | h
    · by_cases hb : B w
      · exact .inr hb
      · exact .inl (hW.other s h ho w hw ⟨hx, hb⟩)
    · exact .inr (hG.other s h ho w hw hx)
  · rcases w.ring (fun a => ¬ B a) with w1 | ⟨u, hu, w1⟩
    · refine hW.ring s m ?_
      have gen : ∀ {s t m}, Wlk (fun a b => Ed g q X (fun s => W s ∨ B s) σ a b ∧ ¬ B a) g.lev s t m → ¬ B t → Wlk (Ed g q (fun s => X s ∧ ¬ B s) W σ) g.lev s t m := by
        intro s t m w
        induction w with
        | one e => exact fun ht => .one ⟨e.1.1.resolve_right e.2, e.1.2.1, ⟨e.1.2.2.1, ht⟩, e.1.2.2.2⟩
        | cons e w ih =>
          intro ht
          rename_i a c b m
          have hu : ¬ B c := by
            cases w with
            | one e2 => exact e2.2
            | cons e2 _ => exact e2.2
          exact .cons ⟨e.1.1.resolve_right e.2, e.1.2.1, ⟨e.1.2.2.1, hu⟩, e.1.2.2.2⟩ (ih ht)
      refine gen w1 ?_
      cases w1 with
      | one e => exact e.2
      | cons e _ => exact e.2
    · have hu : B u := Classical.not_not.mp hu
      have nx : ∀ a b, Ed g q X (fun s => W s ∨ B s) σ a b → B a → B b := fun a b e ha => by
        by_cases ho : g.own a = q
        · obtain ⟨w, h3, _, h4⟩ := hG.mine a ha ho
          have := e.2.2.2 ho
          rw [h3] at this
          cases this
          exact h4
        · exact hG.other a ha ho b e.2.1 e.2.2.1
      exact hG.ring u m ((w1.stay nx hu).1.mono fun a b e => ⟨e.2, e.1.2.1, e.1.2.2.1, e.1.2.2.2⟩)
/-- .. the other player -/
theorem win_other {B L : St} {ch : Sg} (hq : q ≠ p) (hB : Att g X q L B ch) (hW : Win g (fun s => X s ∧ ¬ B s) p W σ) : Win g X p W σ := by
  have own : ∀ s, g.own s ≠ p → g.own s = q := fun s h => by
    cases h1 : g.own s <;> cases p <;> cases q <;> simp_all
  refine ⟨fun s h => (hW.sub s h).1, hW.mine, fun s hs ho w hw hx => ?_, fun s m w => hW.ring s m (w.mono fun a b e => ?_)⟩
  · have := hW.sub s hs
    exact hW.other s hs ho w hw ⟨hx, (hB.out s this.1 this.2).1 (own s ho) w hw hx⟩
  · refine ⟨e.1, e.2.1, ⟨e.2.2.1, ?_⟩, e.2.2.2⟩
    have := hW.sub a e.1
    by_cases ho : g.own a = p
    · obtain ⟨w, h3, _, h4⟩ := hW.mine a e.1 ho
      have h5 := e.2.2.2 ho
      rw [h3] at h5
      cases h5
      exact (hW.sub _ h4).2
    · exact (hB.out a this.1 this.2).1 (own a ho) b e.2.1 e.2.2.1
end
end MP
set_option Elab.async false
set_option linter.all false
set_option maxRecDepth 100000
set_option maxHeartbeats 1000000
namespace Wg
/-- the part of a board -/
def inB (b : Brd) (X : List Nat) : Brd := (List.range b.length).map fun s => ((spot b s).1, if s ∈ X then (spot b s).2.filter (fun w => decide (w ∈ X)) else [])
theorem inB_len (b : Brd) (X : List Nat) : (inB b X).length = b.length := by simp [inB]
theorem inB_spot {b : Brd} {X : List Nat} {s : Nat} (h : s < b.length) : spot (inB b X) s = ((spot b s).1, if s ∈ X then (spot b s).2.filter (fun w => decide (w ∈ X)) else []) := by
  show (inB b X).getD s (true, []) = _
  unfold inB
  simp [List.getD, h]
theorem within_ok (Φ : Ctx) {b : Brd} (hs : b.length ≤ 1000) {X : List Nat} {Q : D → Prop} (q : Q (bD (inB b X))) : wF Φ f_within [bD b, .tup (nD X)] Q := by
  (refine wF_at [.sh _, .sh _, .un, .un, .un, .un, .un] rfl (by decide) rfl ?_)
  ((repeat ((conv => whnf); refine And.intro (by first | exact trivial | exact rfl | omega | assumption | decide | exact pls_nD _ _ | exact keysOk_kv _ _ _) ?_)); (conv => whnf))
  have hl : (b.map spD).length = b.length := List.length_map ..
  refine And.intro (by rw [hl]; unfold LB; omega) (And.intro (by omega) ?_)
  rw [hl, rangeD_nat]
  refine foW_inv (I := fun i ρ => i ≤ b.length ∧ ∃ s3 s4 s5, ρ = [.sh (bD b), .sh (.tup (nD X)), .ol (((inB b X).take i).map spD), s3, s4, s5, .un]) ?_ ?_ ?_
  · exact ⟨Nat.zero_le _, _, _, _, rfl⟩
  · rintro i d ρ K hd ⟨hi, s3, s4, s5, rfl⟩ hK
    have hlt : i < b.length := by
      have := (List.getElem?_eq_some_iff.mp hd).1
      simpa [nD] using this
    have ed : d = .int (i : Int) := by
      have : (nD (List.range b.length))[i]? = some (.int (i : Int)) := nD_get (by simp [hlt])
      rw [this] at hd
      exact (Option.some.inj hd).symm
    subst ed
    have hsp := spot_get hlt
    have lacc : (((inB b X).take i).map spD).length < LB := by
      simp [inB_len, LB]
      omega
    have fin : ∀ (o : List Nat) (s3 s4 s5 : Slot), o = (if i ∈ X then (spot b i).2.filter (fun w => decide (w ∈ X)) else []) → K [.sh (bD b), .sh (.tup (nD X)), .ol (((inB b X).take i).map spD ++ [spD ((spot b i).1, o)]), s3, s4, s5, .un] := fun o s3 s4 s5 e => by
      refine hK _ ⟨by omega, s3, s4, s5, ?_⟩
      have e2 : (inB b X)[i]? = some ((spot b i).1, o) := by
        rw [e, ← inB_spot hlt]
        exact spot_get (by rw [inB_len]; exact hlt)
      rw [List.take_succ, e2]
      simp
    ((repeat ((conv => whnf); refine And.intro (by first | exact trivial | exact rfl | omega | assumption | decide | exact pls_nD _ _ | exact keysOk_kv _ _ _) ?_)); (conv => whnf))
    refine idxL_nat (d := spD (spot b i)) (by simp [hsp]) ?_
    ((repeat ((conv => whnf); refine And.intro (by first | exact trivial | exact rfl | omega | assumption | decide | exact pls_nD _ _ | exact keysOk_kv _ _ _) ?_)); (conv => whnf))
    rw [any_nD]
    refine bif_by (fun h => ?_) (fun h => ?_)
    · have h : i ∈ X := of_decide_eq_true h
      ((repeat ((conv => whnf); refine And.intro (by first | exact trivial | exact rfl | omega | assumption | decide | exact pls_nD _ _ | exact keysOk_kv _ _ _) ?_)); (conv => whnf))
      refine lcW_on (fun (n : Nat) => D.int (n : Int)) (fun w => if decide (w ∈ X) = true then some (.int (w : Int)) else none) (spot b i).2 (fun w hw K hK => ?_) ?_
      · ((repeat ((conv => whnf); refine And.intro (by first | exact trivial | exact rfl | omega | assumption | decide | exact pls_nD _ _ | exact keysOk_kv _ _ _) ?_)); (conv => whnf))
        rw [any_nD]
        refine bif_by (fun h => ?_) (fun h => ?_)
        · rw [if_pos h] at hK
          ((repeat ((conv => whnf); refine And.intro (by first | exact trivial | exact rfl | omega | assumption | decide | exact pls_nD _ _ | exact keysOk_kv _ _ _) ?_)); (conv => whnf))
          exact hK
        · rw [if_neg (by rw [h]; decide)] at hK
          ((repeat ((conv => whnf); refine And.intro (by first | exact trivial | exact rfl | omega | assumption | decide | exact pls_nD _ _ | exact keysOk_kv _ _ _) ?_)); (conv => whnf))
          exact hK
      rw [filterMap_if]
      (try simp only [List.set_cons_succ, List.set_cons_zero, freezeI, wipeE, backE, freeze, freezes, behind, List.getElem?_cons_succ, List.getElem?_cons_zero, Slot.val, Option.getD_some, ite_self])
      ((repeat ((conv => whnf); refine And.intro (by first | exact trivial | exact rfl | omega | assumption | decide | exact pls_nD _ _ | exact keysOk_kv _ _ _) ?_)); (conv => whnf))
      refine fin ((spot b i).2.filter fun w => decide (w ∈ X)) _ _ _ (by rw [if_pos h])
    · have h : ¬ i ∈ X := of_decide_eq_false h
      ((repeat ((conv => whnf); refine And.intro (by first | exact trivial | exact rfl | omega | assumption | decide | exact pls_nD _ _ | exact keysOk_kv _ _ _) ?_)); (conv => whnf))
      refine fin [] _ _ _ (by rw [if_neg h])
  · rintro ρ ⟨hi, s3, s4, s5, rfl⟩
    rw [nD_len, List.length_range, List.take_of_length_le (by rw [inB_len]; omega)]
    ((repeat ((conv => whnf); refine And.intro (by first | exact trivial | exact rfl | omega | assumption | decide | exact pls_nD _ _ | exact keysOk_kv _ _ _) ?_)); (conv => whnf))
    exact q
/-- the game of a board and its levels -/
def gB (b : Brd) (lv : List Nat) : MP.G := ⟨fun s => (spot b s).1, fun s => (spot b s).2, fun s => lv.getD s 0⟩
def onL (X : List Nat) : MP.St := fun s => s ∈ X
/-- can be drawn in one step -/
def can (b : Brd) (X : List Nat) (p : Bool) (K : Nat → Bool) (s : Nat) : Bool :=
  let ways := (spot b s).2.filter (fun w => decide (w ∈ X))
  let near := ways.filter K
  if (spot b s).1 = p then decide (0 < near.length) else decide (near.length = ways.length)
structure DI (b : Brd) (lv X goal : List Nat) (p : Bool) (m : Dk Unit) (c : Dk Nat) : Prop where
  ok : DOk b.length m
  sub : ∀ s, (getN m s).isSome = true → s ∈ X
  inn : ∀ s ∈ goal, (getN m s).isSome = true
  okc : DOk b.length c
  dom : ∀ s w, getN c s = some w → (getN m s).isSome = true ∧ ¬ s ∈ goal ∧ (spot b s).1 = p
  draw : ∃ rk : Nat → Nat, (∀ s, (getN m s).isSome = true → rk s < m.length) ∧ ∀ s, (getN m s).isSome = true → ¬ s ∈ goal → ((spot b s).1 = p → ∃ w, getN c s = some w ∧ w ∈ (spot b s).2 ∧ (getN m w).isSome = true ∧ rk w < rk s) ∧
    ((spot b s).1 ≠ p → ∀ w ∈ (spot b s).2, w ∈ X → (getN m w).isSome = true ∧ rk w < rk s)
theorem DI.att {b : Brd} {lv X goal : List Nat} {p : Bool} {m : Dk Unit} {c : Dk Nat} (h : DI b lv X goal p m c) (hst : ∀ s ∈ X, ¬ (getN m s).isSome = true → can b X p (fun w => (getN m w).isSome) s = false) :
    MP.Att (gB b lv) (onL X) p (onL goal) (onL (X.filter fun s => (getN m s).isSome)) (getN c) := by
  have mem : ∀ s, onL (X.filter fun s => (getN m s).isSome) s ↔ (getN m s).isSome = true := fun s => by
    unfold onL
    rw [List.mem_filter]
    exact ⟨fun z => z.2, fun z => ⟨h.sub s z, z⟩⟩
  refine ⟨fun s hs => h.sub s ((mem s).mp hs), fun s hs => (mem s).mpr (h.inn s hs), fun s w e => ?_, ?_, fun s hs ha => ?_⟩
  · obtain ⟨h1, h2, h3⟩ := h.dom s w e
    exact ⟨(mem s).mpr h1, h2, h3⟩
  · obtain ⟨rk, _, hr⟩ := h.draw
    refine ⟨rk, fun s hs hg => ?_⟩
    obtain ⟨r1, r2⟩ := hr s ((mem s).mp hs) hg
    refine ⟨fun ho => ?_, fun ho w hw hx => ?_⟩
    · obtain ⟨w, e1, e2, e3, e4⟩ := r1 ho
      exact ⟨w, e1, e2, (mem w).mpr e3, e4⟩
    · obtain ⟨e1, e2⟩ := r2 ho w hw hx
      exact ⟨(mem w).mpr e1, e2⟩
  · have h1 : ¬ (getN m s).isSome = true := fun z => ha ((mem s).mpr z)
    have h2 := hst s hs h1
    unfold can at h2
    refine ⟨fun ho w hw hx ha => ?_, fun ho => ?_⟩
    · rw [if_pos (show (spot b s).1 = p from ho)] at h2
      have h2 := of_decide_eq_false h2
      have : w ∈ ((spot b s).2.filter (fun w => decide (w ∈ X))).filter (fun w => (getN m w).isSome) := List.mem_filter.mpr ⟨List.mem_filter.mpr ⟨hw, decide_eq_true (show w ∈ X from hx)⟩, (mem w).mp ha⟩
      exact h2 (List.length_pos_of_mem this)
    · rw [if_neg (show ¬ (spot b s).1 = p from ho)] at h2
      have h2 := of_decide_eq_false h2
      rw [List.length_filter_eq_length_iff] at h2
      have : ∃ w, w ∈ ((spot b s).2.filter (fun w => decide (w ∈ X))) ∧ ¬ (getN m w).isSome = true := by
        refine Classical.byContradiction fun z => h2 fun w hw => Classical.byContradiction fun z2 => z ⟨w, hw, z2⟩
      obtain ⟨w, hw, hn⟩ := this
      obtain ⟨h4, h5⟩ := List.mem_filter.mp hw
      exact ⟨w, h4, of_decide_eq_true (p := w ∈ X) h5, fun z => hn ((mem w).mp z)⟩
/-- one more is known -/
theorem DI.more {b : Brd} {lv X goal : List Nat} {p : Bool} {m : Dk Unit} {c : Dk Nat} (h : DI b lv X goal p m c) {s : Nat} (hX : ∀ s ∈ X, s < b.length) (hs : s ∈ X) (hn : (getN m s).isSome = false) (hc : can b X p (fun w => (getN m w).isSome) s = true) {c' : Dk Nat}
    (e : if (spot b s).1 = p then ∃ w, c' = putN c s w ∧ w ∈ (spot b s).2 ∧ (getN m w).isSome = true else c' = c) : DI b lv X goal p (putN m s ()) c' := by
  have hg : ¬ s ∈ goal := fun z => by rw [h.inn s z] at hn; cases hn
  have mem : ∀ j, (getN (putN m s ()) j).isSome = true ↔ j = s ∨ (getN m j).isSome = true := fun j => by
    rw [getN_put]
    by_cases e : j = s
    · simp [e]
    · simp [e]
  have len : (putN m s ()).length = m.length + 1 := by
    have := congrArg List.length (putN_keys m s ())
    rw [hn] at this
    simpa using this
  have cn : getN c s = none := by
    cases z : getN c s with
    | none => rfl
    | some w => have := (h.dom s w z).1; rw [hn] at this; cases this
  have old : ∀ j, j ≠ s → getN c' j = getN c j := fun j hj => by
    split at e
    · obtain ⟨w, rfl, _⟩ := e
      rw [getN_put, if_neg hj]
    · rw [e]
  refine ⟨h.ok.put (hX s hs) (), fun j hj => ?_, fun j hj => (mem j).mpr (.inr (h.inn j hj)), ?_, fun j w hj => ?_, ?_⟩
  · rcases (mem j).mp hj with z | z
    · rw [z]; exact hs
    · exact h.sub j z
  · split at e
    · obtain ⟨w, rfl, _⟩ := e
      exact h.okc.put (hX s hs) w
    · rw [e]; exact h.okc
  · by_cases z : j = s
    · subst z
      refine ⟨(mem j).mpr (.inl rfl), hg, ?_⟩
      split at e
      · assumption
      · rw [e, cn] at hj; cases hj
    · rw [old j z] at hj
      obtain ⟨h1, h2, h3⟩ := h.dom j w hj
      exact ⟨(mem j).mpr (.inr h1), h2, h3⟩
  · obtain ⟨rk, hlt, hr⟩ := h.draw
    refine ⟨fun j => if j = s then m.length else rk j, fun j hj => ?_, fun j hj hgj => ?_⟩
    · show (if j = s then m.length else rk j) < _
      rw [len]
      rcases (mem j).mp hj with z | z
      · rw [if_pos z]; omega
      · have := hlt j z
        split <;> omega
    · have lt2 : ∀ w, (getN m w).isSome = true → (if w = s then m.length else rk w) < m.length := fun w hw => by
        have : w ≠ s := fun z => by subst z; rw [hw] at hn; cases hn
        rw [if_neg this]
        exact hlt w hw
      by_cases z : j = s
      · subst z
        unfold can at hc
        refine ⟨fun ho => ?_, fun ho w hw hx => ?_⟩
        · rw [if_pos ho] at e
          obtain ⟨w, rfl, h1, h2⟩ := e
          refine ⟨w, by rw [getN_put, if_pos rfl], h1, (mem w).mpr (.inr h2), ?_⟩
          have := lt2 w h2
          simpa using this
        · rw [if_neg ho] at hc
          have hc := List.length_filter_eq_length_iff.mp (of_decide_eq_true hc) w (List.mem_filter.mpr ⟨hw, decide_eq_true hx⟩)
          refine ⟨(mem w).mpr (.inr hc), ?_⟩
          have := lt2 w hc
          simpa using this
      · have hj' := ((mem j).mp hj).resolve_left z
        obtain ⟨r1, r2⟩ := hr j hj' hgj
        have lt3 : ∀ w, (getN m w).isSome = true → rk w < rk j → (if w = s then m.length else rk w) < (if j = s then m.length else rk j) := fun w hw hlt => by
          have : w ≠ s := fun z => by subst z; rw [hw] at hn; cases hn
          rw [if_neg this, if_neg z]
          exact hlt
        refine ⟨fun ho => ?_, fun ho w hw hx => ?_⟩
        · obtain ⟨w, e1, e2, e3, e4⟩ := r1 ho
          exact ⟨w, by rw [old j z]; exact e1, e2, (mem w).mpr (.inr e3), lt3 w e3 e4⟩
        · obtain ⟨e3, e4⟩ := r2 ho w hw hx
          exact ⟨(mem w).mpr (.inr e3), lt3 w e3 e4⟩
theorem own_eqv (o p : Bool) : D.eqv (.int (if o then 0 else 1)) (pD p) = decide (o = p) := by cases o <;> cases p <;> rfl
theorem drawn_within_ok (Φ : Ctx) {b : Brd} (hb : b.length ≤ 1000) (hF : ∀ (X : List Nat) (Q : D → Prop), Q (bD (inB b X)) → Φ.F 233 [bD b, .tup (nD X)] Q) (lv : List Nat) (p : Bool) {goal X : List Nat} (hX : ∀ s ∈ X, s < b.length) (hg : ∀ s ∈ goal, s ∈ X) {Q : D → Prop}
    (q : ∀ (m : Dk Unit) (c : Dk Nat), DOk b.length c → MP.Att (gB b lv) (onL X) p (onL goal) (onL (X.filter fun s => (getN m s).isSome)) (getN c) → Q (.tup [.tup (nD (X.filter fun s => (getN m s).isSome)), .dct (kvE nI c)])) :
    wF Φ f_drawn_within [bD b, pD p, .tup (nD goal), .tup (nD X)] Q := by
  (refine wF_at [.sh _, .sh _, .sh _, .sh _, .un, .un, .un, .un, .un, .un, .un, .un, .un] rfl (by decide) rfl ?_)
  ((repeat ((conv => whnf); refine And.intro (by first | exact trivial | exact rfl | omega | assumption | decide | exact pls_nD _ _ | exact keysOk_kv _ _ _) ?_)); (conv => whnf))
  refine hF X _ ?_
  (try simp only [List.set_cons_succ, List.set_cons_zero, freezeI, wipeE, backE, freeze, freezes, behind, List.getElem?_cons_succ, List.getElem?_cons_zero, Slot.val, Option.getD_some, ite_self])
  ((repeat ((conv => whnf); refine And.intro (by first | exact trivial | exact rfl | omega | assumption | decide | exact pls_nD _ _ | exact keysOk_kv _ _ _) ?_)); (conv => whnf))
  refine dcW_by tI goal (fun _ => true) (fun _ => ()) (fun s hs K hK => ?_) ?_
  · ((repeat ((conv => whnf); refine And.intro (by first | exact trivial | exact rfl | omega | assumption | decide | exact pls_nD _ _ | exact keysOk_kv _ _ _) ?_)); (conv => whnf))
    exact hK
  (try simp only [List.set_cons_succ, List.set_cons_zero, freezeI, wipeE, backE, freeze, freezes, behind, List.getElem?_cons_succ, List.getElem?_cons_zero, Slot.val, Option.getD_some, ite_self])
  ((repeat ((conv => whnf); refine And.intro (by first | exact trivial | exact rfl | omega | assumption | decide | exact pls_nD _ _ | exact keysOk_kv _ _ _) ?_)); (conv => whnf))
  have d0 : DI b lv X goal p (byN goal (fun _ => true) (fun _ => ())) ([] : Dk Nat) := by
    have mem : ∀ s, (getN (byN goal (fun _ => true) (fun _ => ())) s).isSome = true ↔ s ∈ goal := fun s => by
      rw [getN_by]
      by_cases h : s ∈ goal <;> simp [h]
    refine ⟨DOk.by _ _ _ fun s hs => hX s (hg s hs), fun s hs => hg s ((mem s).mp hs), fun s hs => (mem s).mpr hs, .nil, fun s w h => (nomatch h), fun s => (byN goal (fun _ => true) (fun _ => ())).findIdx (fun p => p.1 == s), fun s hs => ?_, fun s hs hn => (hn ((mem s).mp hs)).elim⟩
    refine List.findIdx_lt_length_of_exists ?_
    obtain ⟨x, hx, e⟩ := List.mem_map.mp (getN_some_iff.mp hs)
    exact ⟨x, hx, by simp [e]⟩
  have d0n : ∃ m0 : Dk Unit, m0 = byN goal (fun _ => true) (fun _ => ()) := ⟨_, rfl⟩
  obtain ⟨m0, em⟩ := d0n
  rw [← em] at d0 ⊢
  clear em
  refine ⟨2 * b.length + 3, whW_inv (fun N ρ => ∃ (m : Dk Unit) (c : Dk Nat) (g : Bool) (s8 s9 s10 s11 : Slot), ρ = [.sh (bD b), .sh (pD p), .sh (.tup (nD goal)), .sh (.tup (nD X)), .sh (bD (inB b X)), .od (kvE tI m), .od (kvE nI c), .sh (.bl g), s8, s9, s10, s11, .un] ∧ (s8 = .un ∨ ∃ d, s8 = .sh d) ∧ DI b lv X goal p m c ∧
    (g = false → ∀ s ∈ X, ¬ (getN m s).isSome = true → can b X p (fun w => (getN m w).isSome) s = false) ∧ N = 2 * (b.length - m.length) + (if g then 1 else 0)) ?_ (2 * (b.length - m0.length) + 1) _ ⟨m0, [], true, _, _, _, _, rfl, .inl rfl, d0, fun h => (nomatch h), rfl⟩ _ (by omega)⟩
  rintro N ρ K ⟨m, c, g, s8, s9, s10, s11, rfl, h8, hD, hst, hN⟩ hK
  ((repeat ((conv => whnf); refine And.intro (by first | exact trivial | exact rfl | omega | assumption | decide | exact pls_nD _ _ | exact keysOk_kv _ _ _) ?_)); (conv => whnf))
  refine bif_by (fun h => ?_) (fun h => ?_)
  · subst h
    ((repeat ((conv => whnf); refine And.intro (by first | exact trivial | exact rfl | omega | assumption | decide | exact pls_nD _ _ | exact keysOk_kv _ _ _) ?_)); (conv => whnf))
    refine foW_inv (I := fun i ρ => i ≤ X.length ∧ ∃ (m' : Dk Unit) (c' : Dk Nat) (g' : Bool) (s8 s9 s10 s11 : Slot), ρ = [.sh (bD b), .sh (pD p), .sh (.tup (nD goal)), .sh (.tup (nD X)), .sh (bD (inB b X)), .od (kvE tI m'), .od (kvE nI c'), .sh (.bl g'), s8, s9, s10, s11, .un] ∧ (s8 = .un ∨ ∃ d, s8 = .sh d) ∧ DI b lv X goal p m' c' ∧
      (g' = false → m' = m ∧ c' = c ∧ ∀ s ∈ X.take i, ¬ (getN m s).isSome = true → can b X p (fun w => (getN m w).isSome) s = false) ∧ (g' = true → m.length < m'.length)) ?_ ?_ ?_
    · exact ⟨Nat.zero_le _, m, c, false, s8, s9, s10, s11, rfl, h8, hD, fun _ => ⟨rfl, rfl, fun s h => (nomatch h)⟩, fun h => (nomatch h)⟩
    · rintro i d ρ K2 hd ⟨hi, m', c', g', s8, s9, s10, s11, rfl, h8', hD', h1, h2⟩ hK2
      have hlt : i < X.length := by
        have := (List.getElem?_eq_some_iff.mp hd).1
        simpa [nD] using this
      have ed : d = .int (X[i] : Int) := by
        have : (nD X)[i]? = some (.int (X[i] : Int)) := nD_get (by simp [hlt])
        rw [this] at hd
        exact (Option.some.inj hd).symm
      subst ed
      have hsx : X[i] ∈ X := List.getElem_mem hlt
      have et : X.take (i + 1) = X.take i ++ [X[i]] := by rw [List.take_succ]; simp [hlt]
      generalize X[i] = s at hsx et ⊢
      have hsb := hX s hsx
      have stay : (getN m' s).isSome = true ∨ can b X p (fun w => (getN m' w).isSome) s = false → ∀ s8 s9 s10 s11, (s8 = .un ∨ ∃ d, s8 = .sh d) → K2 [.sh (bD b), .sh (pD p), .sh (.tup (nD goal)), .sh (.tup (nD X)), .sh (bD (inB b X)), .od (kvE tI m'), .od (kvE nI c'), .sh (.bl g'), s8, s9, s10, s11, .un] := fun z s8 s9 s10 s11 h8 => by
        refine hK2 _ ⟨hlt, m', c', g', s8, s9, s10, s11, rfl, h8, hD', fun hg' => ?_, h2⟩
        obtain ⟨e1, e2, e3⟩ := h1 hg'
        refine ⟨e1, e2, fun j hj hn => ?_⟩
        rw [et] at hj
        rcases List.mem_append.mp hj with y | y
        · exact e3 j y hn
        · have : j = s := by simpa using y
          subst this
          rw [e1] at z
          exact z.resolve_left hn
      ((repeat ((conv => whnf); refine And.intro (by first | exact trivial | exact rfl | omega | assumption | decide | exact pls_nD _ _ | exact keysOk_kv _ _ _) ?_)); (conv => whnf))
      rw [look_some]
      refine bif_by (fun h => ?_) (fun h => ?_)
      · have h := not_T h
        have ol := DOk.len hD'.ok
        have olc := DOk.len hD'.okc
        ((repeat ((conv => whnf); refine And.intro (by first | exact trivial | exact rfl | omega | assumption | decide | exact pls_nD _ _ | exact keysOk_kv _ _ _) ?_)); (conv => whnf))
        have hsp := spot_get (b := inB b X) (s := s) (by rw [inB_len]; exact hsb)
        refine idxL_nat (d := spD (spot (inB b X) s)) (by rw [List.getElem?_map, hsp]; rfl) ?_
        rw [inB_spot hsb, if_pos hsx]
        ((repeat ((conv => whnf); refine And.intro (by first | exact trivial | exact rfl | omega | assumption | decide | exact pls_nD _ _ | exact keysOk_kv _ _ _) ?_)); (conv => whnf))
        generalize ew : (spot b s).2.filter (fun w => decide (w ∈ X)) = ways
        refine lcW_on (fun (n : Nat) => D.int (n : Int)) (fun w => if (getN m' w).isSome = true then some (.int (w : Int)) else none) ways (fun w hw K hK => ?_) ?_
        · ((repeat ((conv => whnf); refine And.intro (by first | exact trivial | exact rfl | omega | assumption | decide | exact pls_nD _ _ | exact keysOk_kv _ _ _) ?_)); (conv => whnf))
          rw [look_some]
          refine bif_by (fun h => ?_) (fun h => ?_)
          · rw [if_pos h] at hK
            ((repeat ((conv => whnf); refine And.intro (by first | exact trivial | exact rfl | omega | assumption | decide | exact pls_nD _ _ | exact keysOk_kv _ _ _) ?_)); (conv => whnf))
            exact hK
          · rw [if_neg (by rw [h]; decide)] at hK
            ((repeat ((conv => whnf); refine And.intro (by first | exact trivial | exact rfl | omega | assumption | decide | exact pls_nD _ _ | exact keysOk_kv _ _ _) ?_)); (conv => whnf))
            exact hK
        rw [filterMap_if]
        (try simp only [List.set_cons_succ, List.set_cons_zero, freezeI, wipeE, backE, freeze, freezes, behind, List.getElem?_cons_succ, List.getElem?_cons_zero, Slot.val, Option.getD_some, ite_self])
        have hfil : can b X p (fun w => (getN m' w).isSome) s = (if (spot b s).1 = p then decide (0 < (ways.filter fun w => (getN m' w).isSome).length) else decide ((ways.filter fun w => (getN m' w).isSome).length = ways.length)) := by rw [← ew]; rfl
        have hway : ∀ w ∈ ways, w ∈ (spot b s).2 := fun w hw => by rw [← ew] at hw; exact (List.mem_filter.mp hw).1
        have hnear : ∀ w ∈ ways.filter (fun w => (getN m' w).isSome), w ∈ ways ∧ (getN m' w).isSome = true := fun w hw => List.mem_filter.mp hw
        generalize ways.filter (fun w => (getN m' w).isSome) = near at hfil hnear ⊢
        have put : ∀ (c2 : Dk Nat) (s8 s9 s10 s11 : Slot), can b X p (fun w => (getN m' w).isSome) s = true → (if (spot b s).1 = p then ∃ w, c2 = putN c' s w ∧ w ∈ (spot b s).2 ∧ (getN m' w).isSome = true else c2 = c') → (s8 = .un ∨ ∃ d, s8 = .sh d) →
            K2 [.sh (bD b), .sh (pD p), .sh (.tup (nD goal)), .sh (.tup (nD X)), .sh (bD (inB b X)), .od (kvE tI (putN m' s ())), .od (kvE nI c2), .sh (.bl true), s8, s9, s10, s11, .un] := fun c2 s8 s9 s10 s11 hc he h8 => by
          have hN' : DI b lv X goal p (putN m' s ()) c2 := hD'.more hX hsx h hc he
          have len : (putN m' s ()).length = m'.length + 1 := by
            have := congrArg List.length (putN_keys m' s ())
            rw [h] at this
            simpa using this
          refine hK2 _ ⟨hlt, putN m' s (), c2, true, s8, s9, s10, s11, rfl, h8, hN', fun z => (nomatch z), fun _ => ?_⟩
          rw [len]
          cases g' with
          | false => rw [(h1 rfl).1]; omega
          | true => have := h2 rfl; omega
        ((repeat ((conv => whnf); refine And.intro (by first | exact trivial | exact rfl | omega | assumption | decide | exact pls_nD _ _ | exact keysOk_kv _ _ _) ?_)); (conv => whnf))
        rw [own_eqv]
        refine bif_by (fun h9 => ?_) (fun h9 => ?_)
        · have ho : (spot b s).1 = p := of_decide_eq_true h9
          rw [if_pos ho] at hfil
          ((repeat ((conv => whnf); refine And.intro (by first | exact trivial | exact rfl | omega | assumption | decide | exact pls_nD _ _ | exact keysOk_kv _ _ _) ?_)); (conv => whnf))
          refine bif_by (fun h10 => ?_) (fun h10 => ?_)
          · have h10 : 0 < near.length := by rw [← nD_len near]; exact lt_natT h10
            ((repeat ((conv => whnf); refine And.intro (by first | exact trivial | exact rfl | omega | assumption | decide | exact pls_nD _ _ | exact keysOk_kv _ _ _) ?_)); (conv => whnf))
            refine And.intro (by rw [kv_len]; unfold LB; omega) (And.intro (keysOk_kv _ _ _) ?_)
            (try simp only [List.set_cons_succ, List.set_cons_zero, freezeI, wipeE, backE, freeze, freezes, behind, List.getElem?_cons_succ, List.getElem?_cons_zero, Slot.val, Option.getD_some, ite_self])
            rw [show putD (kvE tI m') (.int (s : Int)) (.bl true) = kvE tI (putN m' s ()) from put_kv tI m' s ()]
            (try simp only [List.set_cons_succ, List.set_cons_zero, freezeI, wipeE, backE, freeze, freezes, behind, List.getElem?_cons_succ, List.getElem?_cons_zero, Slot.val, Option.getD_some, ite_self])
            ((repeat ((conv => whnf); refine And.intro (by first | exact trivial | exact rfl | omega | assumption | decide | exact pls_nD _ _ | exact keysOk_kv _ _ _) ?_)); (conv => whnf))
            rw [own_eqv]
            refine bif_by (fun _ => ?_) (fun h11 => (nomatch h9.symm.trans h11))
            ((repeat ((conv => whnf); refine And.intro (by first | exact trivial | exact rfl | omega | assumption | decide | exact pls_nD _ _ | exact keysOk_kv _ _ _) ?_)); (conv => whnf))
            obtain ⟨w, l, rfl⟩ := List.exists_cons_of_length_pos h10
            refine idxL_nat (k := 0) (d := .int (w : Int)) rfl ?_
            ((repeat ((conv => whnf); refine And.intro (by first | exact trivial | exact rfl | omega | assumption | decide | exact pls_nD _ _ | exact keysOk_kv _ _ _) ?_)); (conv => whnf))
            refine And.intro (by rw [kv_len]; unfold LB; omega) (And.intro (keysOk_kv _ _ _) ?_)
            (try simp only [List.set_cons_succ, List.set_cons_zero, freezeI, wipeE, backE, freeze, freezes, behind, List.getElem?_cons_succ, List.getElem?_cons_zero, Slot.val, Option.getD_some, ite_self])
            rw [show putD (kvE nI c') (.int (s : Int)) (.int (w : Int)) = kvE nI (putN c' s w) from put_kv nI c' s w]
            have hw := hnear w List.mem_cons_self
            exact put _ _ _ _ _ (by rw [hfil]; simp) (by rw [if_pos ho]; exact ⟨w, rfl, hway w hw.1, hw.2⟩) (.inr ⟨_, rfl⟩)
          · have h10 : ¬ 0 < near.length := by rw [← nD_len near]; exact lt_natF h10
            ((repeat ((conv => whnf); refine And.intro (by first | exact trivial | exact rfl | omega | assumption | decide | exact pls_nD _ _ | exact keysOk_kv _ _ _) ?_)); (conv => whnf))
            exact stay (.inr (by rw [hfil]; simpa using h10)) _ _ _ _ (.inr ⟨_, rfl⟩)
        · have ho : ¬ (spot b s).1 = p := of_decide_eq_false h9
          rw [if_neg ho] at hfil
          ((repeat ((conv => whnf); refine And.intro (by first | exact trivial | exact rfl | omega | assumption | decide | exact pls_nD _ _ | exact keysOk_kv _ _ _) ?_)); (conv => whnf))
          refine bif_by (fun h10 => ?_) (fun h10 => ?_)
          · have h10 : near.length = ways.length := by rw [← nD_len near, ← nD_len ways]; exact eqv_natT h10
            ((repeat ((conv => whnf); refine And.intro (by first | exact trivial | exact rfl | omega | assumption | decide | exact pls_nD _ _ | exact keysOk_kv _ _ _) ?_)); (conv => whnf))
            refine And.intro (by rw [kv_len]; unfold LB; omega) (And.intro (keysOk_kv _ _ _) ?_)
            (try simp only [List.set_cons_succ, List.set_cons_zero, freezeI, wipeE, backE, freeze, freezes, behind, List.getElem?_cons_succ, List.getElem?_cons_zero, Slot.val, Option.getD_some, ite_self])
            rw [show putD (kvE tI m') (.int (s : Int)) (.bl true) = kvE tI (putN m' s ()) from put_kv tI m' s ()]
            (try simp only [List.set_cons_succ, List.set_cons_zero, freezeI, wipeE, backE, freeze, freezes, behind, List.getElem?_cons_succ, List.getElem?_cons_zero, Slot.val, Option.getD_some, ite_self])
            ((repeat ((conv => whnf); refine And.intro (by first | exact trivial | exact rfl | omega | assumption | decide | exact pls_nD _ _ | exact keysOk_kv _ _ _) ?_)); (conv => whnf))
            rw [own_eqv]
            refine bif_by (fun h11 => (nomatch h9.symm.trans h11)) (fun _ => ?_)
            ((repeat ((conv => whnf); refine And.intro (by first | exact trivial | exact rfl | omega | assumption | decide | exact pls_nD _ _ | exact keysOk_kv _ _ _) ?_)); (conv => whnf))
            exact put _ _ _ _ _ (by rw [hfil]; simpa using h10) (by rw [if_neg ho]) (.inr ⟨_, rfl⟩)
          · have h10 : ¬ near.length = ways.length := by rw [← nD_len near, ← nD_len ways]; exact eqv_natF h10
            ((repeat ((conv => whnf); refine And.intro (by first | exact trivial | exact rfl | omega | assumption | decide | exact pls_nD _ _ | exact keysOk_kv _ _ _) ?_)); (conv => whnf))
            exact stay (.inr (by rw [hfil]; simpa using h10)) _ _ _ _ (.inr ⟨_, rfl⟩)
      · have h := not_F h
        ((repeat ((conv => whnf); refine And.intro (by first | exact trivial | exact rfl | omega | assumption | decide | exact pls_nD _ _ | exact keysOk_kv _ _ _) ?_)); (conv => whnf))
        exact stay (.inl h) _ _ _ _ (.inr ⟨_, rfl⟩)
    · rintro ρ ⟨hi, m', c', g', s8, s9, s10, s11, rfl, h8', hD', h1, h2⟩
      rw [nD_len, List.take_length] at h1
      refine hK (2 * (b.length - m'.length) + (if g' then 1 else 0)) _ ?_ ⟨m', c', g', s8, s9, s10, s11, rfl, h8', hD', fun hg' => ?_, rfl⟩
      · have ol := DOk.len hD'.ok
        cases g' with
        | false =>
          rw [(h1 rfl).1, hN]
          simp
        | true =>
          have := h2 rfl
          rw [hN]
          simp
          omega
      · obtain ⟨e1, e2, e3⟩ := h1 hg'
        rw [e1]
        exact e3
  · subst h
    rcases h8 with rfl | ⟨d, rfl⟩
    · ((repeat ((conv => whnf); refine And.intro (by first | exact trivial | exact rfl | omega | assumption | decide | exact pls_nD _ _ | exact keysOk_kv _ _ _) ?_)); (conv => whnf))
      refine lcW_on (fun (n : Nat) => D.int (n : Int)) (fun w => if (getN m w).isSome = true then some (.int (w : Int)) else none) X (fun w hw K hK => ?_) ?_
      · ((repeat ((conv => whnf); refine And.intro (by first | exact trivial | exact rfl | omega | assumption | decide | exact pls_nD _ _ | exact keysOk_kv _ _ _) ?_)); (conv => whnf))
        rw [look_some]
        refine bif_by (fun h => ?_) (fun h => ?_)
        · rw [if_pos h] at hK
          ((repeat ((conv => whnf); refine And.intro (by first | exact trivial | exact rfl | omega | assumption | decide | exact pls_nD _ _ | exact keysOk_kv _ _ _) ?_)); (conv => whnf))
          exact hK
        · rw [if_neg (by rw [h]; decide)] at hK
          ((repeat ((conv => whnf); refine And.intro (by first | exact trivial | exact rfl | omega | assumption | decide | exact pls_nD _ _ | exact keysOk_kv _ _ _) ?_)); (conv => whnf))
          exact hK
      rw [filterMap_if]
      (try simp only [List.set_cons_succ, List.set_cons_zero, freezeI, wipeE, backE, freeze, freezes, behind, List.getElem?_cons_succ, List.getElem?_cons_zero, Slot.val, Option.getD_some, ite_self])
      ((repeat ((conv => whnf); refine And.intro (by first | exact trivial | exact rfl | omega | assumption | decide | exact pls_nD _ _ | exact keysOk_kv _ _ _) ?_)); (conv => whnf))
      exact q m c hD.okc (hD.att (hst rfl))
    · ((repeat ((conv => whnf); refine And.intro (by first | exact trivial | exact rfl | omega | assumption | decide | exact pls_nD _ _ | exact keysOk_kv _ _ _) ?_)); (conv => whnf))
      refine lcW_on (fun (n : Nat) => D.int (n : Int)) (fun w => if (getN m w).isSome = true then some (.int (w : Int)) else none) X (fun w hw K hK => ?_) ?_
      · ((repeat ((conv => whnf); refine And.intro (by first | exact trivial | exact rfl | omega | assumption | decide | exact pls_nD _ _ | exact keysOk_kv _ _ _) ?_)); (conv => whnf))
        rw [look_some]
        refine bif_by (fun h => ?_) (fun h => ?_)
        · rw [if_pos h] at hK
          ((repeat ((conv => whnf); refine And.intro (by first | exact trivial | exact rfl | omega | assumption | decide | exact pls_nD _ _ | exact keysOk_kv _ _ _) ?_)); (conv => whnf))
          exact hK
        · rw [if_neg (by rw [h]; decide)] at hK
          ((repeat ((conv => whnf); refine And.intro (by first | exact trivial | exact rfl | omega | assumption | decide | exact pls_nD _ _ | exact keysOk_kv _ _ _) ?_)); (conv => whnf))
          exact hK
      rw [filterMap_if]
      (try simp only [List.set_cons_succ, List.set_cons_zero, freezeI, wipeE, backE, freeze, freezes, behind, List.getElem?_cons_succ, List.getElem?_cons_zero, Slot.val, Option.getD_some, ite_self])
      ((repeat ((conv => whnf); refine And.intro (by first | exact trivial | exact rfl | omega | assumption | decide | exact pls_nD _ _ | exact keysOk_kv _ _ _) ?_)); (conv => whnf))
      exact q m c hD.okc (hD.att (hst rfl))
end Wg
set_option Elab.async false
set_option linter.all false
set_option maxRecDepth 100000
set_option maxHeartbeats 1000000
namespace Wg
theorem ways_within_ok (Φ : Ctx) {b : Brd} (hb : b.length ≤ 1000) (p : Bool) {goal X : List Nat} (hX : ∀ s ∈ goal, s < b.length) (hsub : ∀ s ∈ goal, ∃ w ∈ (spot b s).2, w ∈ X) {Q : D → Prop}
    (q : ∀ c : Dk Nat, DOk b.length c → (∀ s w, getN c s = some w → s ∈ goal ∧ (spot b s).1 = p ∧ w ∈ (spot b s).2 ∧ w ∈ X) → (∀ s ∈ goal, (spot b s).1 = p → (getN c s).isSome = true) → Q (.dct (kvE nI c))) :
    wF Φ f_ways_within [bD b, pD p, .tup (nD goal), .tup (nD X)] Q := by
  (refine wF_at [.sh _, .sh _, .sh _, .sh _, .un, .un, .un] rfl (by decide) rfl ?_)
  ((repeat ((conv => whnf); refine And.intro (by first | exact trivial | exact rfl | omega | assumption | decide | exact pls_nD _ _ | exact keysOk_kv _ _ _) ?_)); (conv => whnf))
  refine foW_inv (I := fun i ρ => i ≤ goal.length ∧ ∃ (c : Dk Nat) (s5 : Slot), ρ = [.sh (bD b), .sh (pD p), .sh (.tup (nD goal)), .sh (.tup (nD X)), .od (kvE nI c), s5, .un] ∧ DOk b.length c ∧
    (∀ s w, getN c s = some w → s ∈ goal ∧ (spot b s).1 = p ∧ w ∈ (spot b s).2 ∧ w ∈ X) ∧ (∀ s ∈ goal.take i, (spot b s).1 = p → (getN c s).isSome = true)) ?_ ?_ ?_
  · exact ⟨Nat.zero_le _, [], _, rfl, .nil, fun s w h => (nomatch h), fun s h => (nomatch h)⟩
  · rintro i d ρ K hd ⟨hi, c, s5, rfl, ok, h1, h2⟩ hK
    have hlt : i < goal.length := by
      have := (List.getElem?_eq_some_iff.mp hd).1
      simpa [nD] using this
    have ed : d = .int (goal[i] : Int) := by
      have : (nD goal)[i]? = some (.int (goal[i] : Int)) := nD_get (by simp [hlt])
      rw [this] at hd
      exact (Option.some.inj hd).symm
    subst ed
    have hsx : goal[i] ∈ goal := List.getElem_mem hlt
    have et : goal.take (i + 1) = goal.take i ++ [goal[i]] := by rw [List.take_succ]; simp [hlt]
    generalize goal[i] = s at hsx et ⊢
    have hsb := hX s hsx
    have hsp := spot_get hsb
    ((repeat ((conv => whnf); refine And.intro (by first | exact trivial | exact rfl | omega | assumption | decide | exact pls_nD _ _ | exact keysOk_kv _ _ _) ?_)); (conv => whnf))
    refine idxL_nat (d := spD (spot b s)) (by simp [hsp]) ?_
    ((repeat ((conv => whnf); refine And.intro (by first | exact trivial | exact rfl | omega | assumption | decide | exact pls_nD _ _ | exact keysOk_kv _ _ _) ?_)); (conv => whnf))
    refine bif_by (fun h => ?_) (fun h => ?_)
    · have ho : (spot b s).1 = p := of_decide_eq_true ((own_eqv _ _).symm.trans h)
      ((repeat ((conv => whnf); refine And.intro (by first | exact trivial | exact rfl | omega | assumption | decide | exact pls_nD _ _ | exact keysOk_kv _ _ _) ?_)); (conv => whnf))
      refine idxL_nat (d := spD (spot b s)) (by simp [hsp]) ?_
      ((repeat ((conv => whnf); refine And.intro (by first | exact trivial | exact rfl | omega | assumption | decide | exact pls_nD _ _ | exact keysOk_kv _ _ _) ?_)); (conv => whnf))
      refine lcW_on (fun (n : Nat) => D.int (n : Int)) (fun w => if decide (w ∈ X) = true then some (.int (w : Int)) else none) (spot b s).2 (fun w hw K hK => ?_) ?_
      · ((repeat ((conv => whnf); refine And.intro (by first | exact trivial | exact rfl | omega | assumption | decide | exact pls_nD _ _ | exact keysOk_kv _ _ _) ?_)); (conv => whnf))
        rw [any_nD]
        refine bif_by (fun h => ?_) (fun h => ?_)
        · rw [if_pos h] at hK
          ((repeat ((conv => whnf); refine And.intro (by first | exact trivial | exact rfl | omega | assumption | decide | exact pls_nD _ _ | exact keysOk_kv _ _ _) ?_)); (conv => whnf))
          exact hK
        · rw [if_neg (by rw [h]; decide)] at hK
          ((repeat ((conv => whnf); refine And.intro (by first | exact trivial | exact rfl | omega | assumption | decide | exact pls_nD _ _ | exact keysOk_kv _ _ _) ?_)); (conv => whnf))
          exact hK
      rw [filterMap_if]
      (try simp only [List.set_cons_succ, List.set_cons_zero, freezeI, wipeE, backE, freeze, freezes, behind, List.getElem?_cons_succ, List.getElem?_cons_zero, Slot.val, Option.getD_some, ite_self])
      have hmem : ∀ w ∈ (spot b s).2.filter (fun w => decide (w ∈ X)), w ∈ (spot b s).2 ∧ w ∈ X := fun w hw => by
        obtain ⟨a, b⟩ := List.mem_filter.mp hw
        exact ⟨a, of_decide_eq_true b⟩
      have hne : (spot b s).2.filter (fun w => decide (w ∈ X)) ≠ [] := fun z => by
        obtain ⟨w, hw, hx⟩ := hsub s hsx
        have : w ∈ (spot b s).2.filter (fun w => decide (w ∈ X)) := List.mem_filter.mpr ⟨hw, decide_eq_true hx⟩
        rw [z] at this
        exact nomatch this
      generalize (spot b s).2.filter (fun w => decide (w ∈ X)) = near at hmem hne ⊢
      obtain ⟨w, l, rfl⟩ := List.exists_cons_of_ne_nil hne
      ((repeat ((conv => whnf); refine And.intro (by first | exact trivial | exact rfl | omega | assumption | decide | exact pls_nD _ _ | exact keysOk_kv _ _ _) ?_)); (conv => whnf))
      refine idxL_nat (k := 0) (d := .int (w : Int)) rfl ?_
      have olc := DOk.len ok
      ((repeat ((conv => whnf); refine And.intro (by first | exact trivial | exact rfl | omega | assumption | decide | exact pls_nD _ _ | exact keysOk_kv _ _ _) ?_)); (conv => whnf))
      refine And.intro (by rw [kv_len]; unfold LB; omega) (And.intro (keysOk_kv _ _ _) ?_)
      (try simp only [List.set_cons_succ, List.set_cons_zero, freezeI, wipeE, backE, freeze, freezes, behind, List.getElem?_cons_succ, List.getElem?_cons_zero, Slot.val, Option.getD_some, ite_self])
      rw [show putD (kvE nI c) (.int (s : Int)) (.int (w : Int)) = kvE nI (putN c s w) from put_kv nI c s w]
      have hw := hmem w List.mem_cons_self
      refine hK _ ⟨hlt, putN c s w, _, rfl, ok.put hsb w, fun j w' hj => ?_, fun j hj hoj => ?_⟩
      · rw [getN_put] at hj
        split at hj
        · rename_i e
          cases hj
          subst e
          exact ⟨hsx, ho, hw⟩
        · exact h1 j w' hj
      · rw [getN_put]
        split
        · rfl
        · rename_i e
          rw [et] at hj
          rcases List.mem_append.mp hj with z | z
          · exact h2 j z hoj
          · exact (e (by simpa using z)).elim
    · have ho : ¬ (spot b s).1 = p := of_decide_eq_false ((own_eqv _ _).symm.trans h)
      ((repeat ((conv => whnf); refine And.intro (by first | exact trivial | exact rfl | omega | assumption | decide | exact pls_nD _ _ | exact keysOk_kv _ _ _) ?_)); (conv => whnf))
      refine hK _ ⟨hlt, c, _, rfl, ok, h1, fun j hj hoj => ?_⟩
      rw [et] at hj
      rcases List.mem_append.mp hj with z | z
      · exact h2 j z hoj
      · have : j = s := by simpa using z
        subst this
        exact (ho hoj).elim
  · rintro ρ ⟨hi, c, s5, rfl, ok, h1, h2⟩
    rw [nD_len, List.take_length] at h2
    ((repeat ((conv => whnf); refine And.intro (by first | exact trivial | exact rfl | omega | assumption | decide | exact pls_nD _ _ | exact keysOk_kv _ _ _) ?_)); (conv => whnf))
    exact q c ok h1 h2
def pN (r : Bool) : Nat := if r then 0 else 1
def wonBy (o : Dk Nat) (r : Bool) : MP.St := fun s => getN o s = some (pN r)
structure Sol (b : Brd) (lv : List Nat) (X : MP.St) (o c : Dk Nat) : Prop where
  oko : DOk b.length o
  okc : DOk b.length c
  all : ∀ s, X s → ∃ r, wonBy o r s
  domo : ∀ s, (getN o s).isSome = true → X s
  domc : ∀ s, (getN c s).isSome = true → X s
  win : ∀ r, MP.Win (gB b lv) X r (wonBy o r) (getN c)
/-- the loop's states: L is left of X -/
structure SI (b : Brd) (lv : List Nat) (X L : MP.St) (o c : Dk Nat) : Prop where
  oko : DOk b.length o
  okc : DOk b.length c
  sub : ∀ s, L s → X s
  all : ∀ s, X s → ¬ L s → ∃ r, wonBy o r s
  domo : ∀ s, (getN o s).isSome = true → X s ∧ ¬ L s
  domc : ∀ s, (getN c s).isSome = true → X s ∧ ¬ L s
  rest : MP.Sub (gB b lv) L
  win : ∀ r W σ, MP.Win (gB b lv) L r W σ → (∀ s, wonBy o r s → (spot b s).1 = r → σ s = getN c s) → MP.Win (gB b lv) X r (fun s => W s ∨ wonBy o r s) σ
theorem bool_two {p q r : Bool} (hq : q ≠ p) (hr : r ≠ q) : r = p := by cases p <;> cases q <;> cases r <;> first | rfl | exact (hq rfl).elim | exact (hr rfl).elim
section
variable {b : Brd} {lv : List Nat} {X L A B : MP.St} {o c : Dk Nat} {p q r : Bool}
theorem wonBy.some (h : wonBy o r s) : (getN o s).isSome = true := by rw [show getN o s = _ from h]; rfl
theorem SI.start (hX : MP.Sub (gB b lv) X) : SI b lv X X [] [] :=
  ⟨.nil, .nil, fun s h => h, fun s h n => (n h).elim, fun s h => (nomatch h), fun s h => (nomatch h), hX, fun r W σ hW _ => hW.iff fun s => ⟨.inl, fun z => z.elim id fun z => (nomatch z)⟩⟩
theorem SI.done (h : SI b lv X L o c) (hL : ∀ s, ¬ L s) : Sol b lv X o c :=
  ⟨h.oko, h.okc, fun s hs => h.all s hs (hL s), fun s hs => (h.domo s hs).1, fun s hs => (h.domc s hs).1, fun r => (h.win r _ _ .none fun _ _ _ => rfl).iff fun s => ⟨fun z => z.elim False.elim id, .inr⟩⟩
/-- all the rest is the player's -/
theorem SI.last (h : SI b lv X L o c) {o' c' : Dk Nat} (ho : DOk b.length o') (hc : DOk b.length c') (eo : ∀ s, wonBy o' p s ↔ L s ∨ wonBy o p s) (eq : ∀ r s, r ≠ p → (wonBy o' r s ↔ wonBy o r s)) (ds : ∀ s, (getN o' s).isSome = true → L s ∨ (getN o s).isSome = true)
    (ec : ∀ s, ¬ L s → getN c' s = getN c s) (hW : MP.Win (gB b lv) L p L (getN c')) : Sol b lv X o' c' := by
  have ag : ∀ r s, wonBy o r s → (spot b s).1 = r → getN c' s = getN c s := fun r s hs _ => ec s (h.domo s hs.some).2
  refine ⟨ho, hc, fun s hs => ?_, fun s hs => ?_, fun s hs => ?_, fun r => ?_⟩
  · by_cases hl : L s
    · exact ⟨p, (eo s).mpr (.inl hl)⟩
    · obtain ⟨r, hr⟩ := h.all s hs hl
      refine ⟨r, ?_⟩
      by_cases e : r = p
      · subst e; exact (eo s).mpr (.inr hr)
      · exact (eq r s e).mpr hr
  · rcases ds s hs with z | z
    · exact h.sub s z
    · exact (h.domo s z).1
  · by_cases hl : L s
    · exact h.sub s hl
    · rw [ec s hl] at hs
      exact (h.domc s hs).1
  · by_cases e : r = p
    · subst e
      exact (h.win r L _ hW (ag r)).iff fun s => (eo s).symm
    · exact (h.win r _ _ .none (ag r)).iff fun s => ⟨fun z => z.elim False.elim fun z => (eq r s e).mpr z, fun z => .inr ((eq r s e).mp z)⟩
/-- what the other one draws goes -/
theorem SI.step (h : SI b lv X L o c) {o' c' ch2 : Dk Nat} {M : MP.St} (hq : q ≠ p) (ho : DOk b.length o') (hc : DOk b.length c') (hB : MP.Att (gB b lv) L q M B (getN ch2)) (hG : MP.Win (gB b lv) L q B (getN c'))
    (eo : ∀ s, wonBy o' q s ↔ B s ∨ wonBy o q s) (eq : ∀ s, wonBy o' p s ↔ wonBy o p s) (ds : ∀ s, (getN o' s).isSome = true → B s ∨ (getN o s).isSome = true)
    (ec : ∀ s, ¬ L s → getN c' s = getN c s) (dc : ∀ s, (getN c' s).isSome = true → B s ∨ (getN c s).isSome = true) : SI b lv X (fun s => L s ∧ ¬ B s) o' c' := by
  have two : ∀ r, r ≠ q → r = p := fun r hr => bool_two hq hr
  refine ⟨ho, hc, fun s hs => h.sub s hs.1, fun s hs hn => ?_, fun s hs => ?_, fun s hs => ?_, hB.rest h.rest, fun r W σ hW hσ => ?_⟩
  · by_cases hb : B s
    · exact ⟨q, (eo s).mpr (.inl hb)⟩
    · obtain ⟨r, hr⟩ := h.all s hs fun hl => hn ⟨hl, hb⟩
      refine ⟨r, ?_⟩
      by_cases e : r = q
      · subst e; exact (eo s).mpr (.inr hr)
      · rw [two r e] at hr ⊢; exact (eq s).mpr hr
  · rcases ds s hs with z | z
    · exact ⟨h.sub s (hB.sub s z), fun y => y.2 z⟩
    · have := h.domo s z; exact ⟨this.1, fun y => this.2 y.1⟩
  · rcases dc s hs with z | z
    · exact ⟨h.sub s (hB.sub s z), fun y => y.2 z⟩
    · have := h.domc s z; exact ⟨this.1, fun y => this.2 y.1⟩
  · by_cases e : r = q
    · subst e
      have hG2 : MP.Win (gB b lv) L r B σ := hG.congr fun s hs hos => hσ s ((eo s).mpr (.inl hs)) hos
      have w1 := MP.win_same hB hG2 hW
      refine (h.win r _ σ w1 fun s hs hos => ?_).iff fun s => ?_
      · rw [hσ s ((eo s).mpr (.inr hs)) hos, ec s (h.domo s hs.some).2]
      · rw [eo s, or_assoc]
    · have e := two r e
      subst e
      have w1 := MP.win_other hq hB hW
      refine (h.win r _ σ w1 fun s hs hos => ?_).iff fun s => ?_
      · rw [hσ s ((eq s).mpr hs) hos, ec s (h.domo s hs.some).2]
      · rw [eq s]
end
end Wg
set_option Elab.async false
set_option linter.all false
set_option maxRecDepth 100000
set_option maxHeartbeats 1000000
namespace Wg
section
variable {b : Brd} {lv : List Nat} {X : MP.St} {L A goal : List Nat} {o c oI cI ch1 ch2 cg : Dk Nat} {p : Bool} {top : Nat}
theorem bool_not {p r : Bool} (h : ¬ r = p) : r = !p := by cases p <;> cases r <;> first | rfl | exact (h rfl).elim
theorem pN_inj {r r' : Bool} (h : pN r = pN r') : r = r' := by cases r <;> cases r' <;> first | rfl | cases h
theorem rest_eq : onL (L.filter fun s => !decide (s ∈ A)) = fun s => onL L s ∧ ¬ onL A s := funext fun s => propext (by
  unfold onL
  rw [List.mem_filter]
  simp)
theorem none_of {β : Type} {x : Option β} (h : ¬ x.isSome = true) : x = none := by cases x with | none => rfl | some _ => exact (h rfl).elim
theorem SI.last' (h : SI b lv X (onL L) o c) (hL : ∀ s ∈ L, s < b.length) (hp : (top % 2 == 0) = p) (hle : ∀ s ∈ L, lv.getD s 0 ≤ top) (hgoal : ∀ s, s ∈ goal ↔ s ∈ L ∧ lv.getD s 0 = top)
    (hA : MP.Att (gB b lv) (onL L) p (onL goal) (onL A) (getN ch1)) (ok1 : DOk b.length ch1) (hI : Sol b lv (onL (L.filter fun s => !decide (s ∈ A))) oI cI) (hno : ∀ s, ¬ wonBy oI (!p) s)
    (okg : DOk b.length cg) (hg1 : ∀ s w, getN cg s = some w → s ∈ goal ∧ (spot b s).1 = p ∧ w ∈ (spot b s).2 ∧ w ∈ L) (hg2 : ∀ s ∈ goal, (spot b s).1 = p → (getN cg s).isSome = true) :
    Sol b lv X (putAllN o (byN L (fun _ => true) fun _ => pN p)) (putAllN (putAllN (putAllN c cI) ch1) cg) := by
  have okb : DOk b.length (byN L (fun _ => true) fun _ => pN p) := DOk.by _ _ _ hL
  have go : ∀ s, getN (putAllN o (byN L (fun _ => true) fun _ => pN p)) s = if s ∈ L then some (pN p) else getN o s := fun s => by
    rw [getN_upd okb, getN_by]
    by_cases z : s ∈ L <;> simp [z]
  have gc : ∀ s, getN (putAllN (putAllN (putAllN c cI) ch1) cg) s = (getN cg s).or ((getN ch1 s).or ((getN cI s).or (getN c s))) := fun s => by
    rw [getN_upd okg, getN_upd ok1, getN_upd hI.okc]
  have oko' : DOk b.length (putAllN o (byN L (fun _ => true) fun _ => pN p)) := h.oko.putAll okb.all
  generalize putAllN o (byN L (fun _ => true) fun _ => pN p) = o' at go oko' ⊢
  have no1 : ∀ s, ¬ s ∈ A → getN ch1 s = none := fun s hs => none_of fun z => by
    obtain ⟨w, e⟩ := Option.isSome_iff_exists.mp z
    exact hs (hA.dom s w e).1
  have nog : ∀ s, ¬ s ∈ goal → getN cg s = none := fun s hs => none_of fun z => by
    obtain ⟨w, e⟩ := Option.isSome_iff_exists.mp z
    exact hs (hg1 s w e).1
  have eR := rest_eq (L := L) (A := A)
  have noI : ∀ s, ¬ (s ∈ L ∧ ¬ s ∈ A) → getN cI s = none := fun s hs => none_of fun z => by
    have := hI.domc s z
    rw [eR] at this
    exact hs this
  have gA : ∀ s, s ∈ goal → s ∈ A := fun s hs => hA.inn s hs
  have sA : ∀ s, s ∈ A → s ∈ L := fun s hs => hA.sub s hs
  have ec : ∀ s, ¬ s ∈ L → getN (putAllN (putAllN (putAllN c cI) ch1) cg) s = getN c s := fun s hs => by
    rw [gc, nog s fun z => hs (sA s (gA s z)), no1 s fun z => hs (sA s z), noI s fun z => hs z.1]
    rfl
  have okc' : DOk b.length (putAllN (putAllN (putAllN c cI) ch1) cg) := ((h.okc.putAll hI.okc.all).putAll ok1.all).putAll okg.all
  refine h.last (p := p) oko' okc' (fun s => ?_) (fun r s hr => ?_) (fun s hs => ?_) ec ?_
  · unfold wonBy onL
    rw [go]
    by_cases z : s ∈ L <;> simp [z]
  · unfold wonBy
    rw [go]
    by_cases z : s ∈ L
    · rw [if_pos z]
      refine ⟨fun e => (hr (pN_inj (Option.some.inj e)).symm).elim, fun e => ?_⟩
      exact ((h.domo s (by rw [e]; rfl)).2 z).elim
    · rw [if_neg z]
  · rw [go] at hs
    by_cases z : s ∈ L
    · exact .inl z
    · rw [if_neg z] at hs; exact .inr hs
  · have eG : onL goal = fun s => onL L s ∧ (gB b lv).lev s = top := funext fun s => propext (hgoal s)
    rw [eG] at hA
    have hW := hI.win p
    have hWall : ∀ s, wonBy oI p s ↔ (onL L s ∧ ¬ onL A s) := fun s => by
      constructor
      · intro z
        have := hI.domo s z.some
        rw [eR] at this
        exact this
      · intro z
        have : onL (L.filter fun s => !decide (s ∈ A)) s := by rw [eR]; exact z
        obtain ⟨r, hr⟩ := hI.all s this
        by_cases e : r = p
        · rw [← e]; exact hr
        · rw [bool_not e] at hr
          exact (hno s hr).elim
    rw [eR] at hW
    have hW := (hW.iff hWall).congr (τ := getN (putAllN (putAllN (putAllN c cI) ch1) cg)) fun s hs ho => by
      rw [gc, nog s fun z => hs.2 (gA s z), no1 s hs.2]
      obtain ⟨w, e, _⟩ := hW.mine s ((hWall s).mpr hs) ho
      rw [e]; rfl
    refine MP.win_all h.rest hp (fun s hs => hle s hs) hA hW (fun s hs hn ho => ?_) fun s hs ht ho => ?_
    · rw [gc, nog s fun z => hn ((hgoal s).mp z)]
      obtain ⟨rk, hr⟩ := hA.draw
      obtain ⟨w, e, _⟩ := (hr s hs hn).1 ho
      rw [e]; rfl
    · obtain ⟨w, e⟩ := Option.isSome_iff_exists.mp (hg2 s ((hgoal s).mpr ⟨hs, ht⟩) ho)
      obtain ⟨_, _, h3, h4⟩ := hg1 s w e
      exact ⟨w, by rw [gc, e]; rfl, h3, h4⟩
theorem SI.step' {lost B : List Nat} (h : SI b lv X (onL L) o c) (hL : ∀ s ∈ L, s < b.length)
    (hA : MP.Att (gB b lv) (onL L) p (onL goal) (onL A) (getN ch1)) (hI : Sol b lv (onL (L.filter fun s => !decide (s ∈ A))) oI cI) (hlost : ∀ s, s ∈ lost ↔ wonBy oI (!p) s)
    (hB : MP.Att (gB b lv) (onL L) (!p) (onL lost) (onL B) (getN ch2)) (ok2 : DOk b.length ch2) :
    SI b lv X (fun s => onL L s ∧ ¬ onL B s) (putAllN o (byN B (fun _ => true) fun _ => pN (!p))) (putAllN (putAllN c (byN lost (fun s => decide ((spot b s).1 = !p)) fun s => (getN cI s).getD 0)) ch2) := by
  have eR := rest_eq (L := L) (A := A)
  have lostL : ∀ s, s ∈ lost → s ∈ L := fun s hs => by
    have := hI.domo s ((hlost s).mp hs).some
    rw [eR] at this
    exact this.1
  have sB : ∀ s, s ∈ B → s ∈ L := fun s hs => hB.sub s hs
  have okb : DOk b.length (byN B (fun _ => true) fun _ => pN (!p)) := DOk.by _ _ _ fun s hs => hL s (sB s hs)
  have okl : DOk b.length (byN lost (fun s => decide ((spot b s).1 = !p)) fun s => (getN cI s).getD 0) := DOk.by _ _ _ fun s hs => hL s (lostL s hs)
  have go : ∀ s, getN (putAllN o (byN B (fun _ => true) fun _ => pN (!p))) s = if s ∈ B then some (pN (!p)) else getN o s := fun s => by
    rw [getN_upd okb, getN_by]
    by_cases z : s ∈ B <;> simp [z]
  have oko' : DOk b.length (putAllN o (byN B (fun _ => true) fun _ => pN (!p))) := h.oko.putAll okb.all
  generalize putAllN o (byN B (fun _ => true) fun _ => pN (!p)) = o' at go oko' ⊢
  have gl : ∀ s, getN (byN lost (fun s => decide ((spot b s).1 = !p)) fun s => (getN cI s).getD 0) s = if s ∈ lost ∧ (spot b s).1 = !p then some ((getN cI s).getD 0) else none := fun s => by
    rw [getN_by]
    by_cases z : s ∈ lost ∧ (spot b s).1 = !p
    · rw [if_pos z, if_pos ⟨z.1, decide_eq_true z.2⟩]
    · rw [if_neg z, if_neg fun y => z ⟨y.1, of_decide_eq_true y.2⟩]
  have gc : ∀ s, getN (putAllN (putAllN c (byN lost (fun s => decide ((spot b s).1 = !p)) fun s => (getN cI s).getD 0)) ch2) s = (getN ch2 s).or ((if s ∈ lost ∧ (spot b s).1 = !p then some ((getN cI s).getD 0) else none).or (getN c s)) := fun s => by
    rw [getN_upd ok2, getN_upd okl, gl]
  have okc' : DOk b.length (putAllN (putAllN c (byN lost (fun s => decide ((spot b s).1 = !p)) fun s => (getN cI s).getD 0)) ch2) := (h.okc.putAll okl.all).putAll ok2.all
  generalize putAllN (putAllN c (byN lost (fun s => decide ((spot b s).1 = !p)) fun s => (getN cI s).getD 0)) ch2 = c' at gc okc' ⊢
  have no2 : ∀ s, (¬ s ∈ B ∨ s ∈ lost) → getN ch2 s = none := fun s hs => none_of fun z => by
    obtain ⟨w, e⟩ := Option.isSome_iff_exists.mp z
    obtain ⟨h1, h2, _⟩ := hB.dom s w e
    exact hs.elim (fun y => y h1) h2
  have lB : ∀ s, s ∈ lost → s ∈ B := fun s hs => hB.inn s hs
  have hq : (!p) ≠ p := by cases p <;> exact nofun
  have hW := hI.win (!p)
  rw [eR] at hW
  have hW : MP.Win (gB b lv) (fun s => onL L s ∧ ¬ onL A s) (!p) (onL lost) (getN cI) := hW.iff fun s => (hlost s).symm
  have hW2 := hW.congr (τ := getN c') fun s hs ho => by
    obtain ⟨w, e, _⟩ := hW.mine s hs ho
    rw [gc, no2 s (.inr hs), if_pos ⟨hs, ho⟩, e]; rfl
  refine h.step (q := !p) (p := p) hq oko' okc' hB (MP.win_gone hq hA hW2 hB fun s hs hn ho => ?_) (fun s => ?_) (fun s => ?_) (fun s hs => ?_) (fun s hs => ?_) (fun s hs => ?_)
  · obtain ⟨rk, hr⟩ := hB.draw
    obtain ⟨w, e, _⟩ := (hr s hs hn).1 ho
    rw [gc, e]; rfl
  · unfold wonBy onL
    rw [go]
    by_cases z : s ∈ B <;> simp [z]
  · unfold wonBy
    rw [go]
    by_cases z : s ∈ B
    · rw [if_pos z]
      refine ⟨fun e => (hq (pN_inj (Option.some.inj e))).elim, fun e => ?_⟩
      exact ((h.domo s (by rw [e]; rfl)).2 (sB s z)).elim
    · rw [if_neg z]
  · rw [go] at hs
    by_cases z : s ∈ B
    · exact .inl z
    · rw [if_neg z] at hs; exact .inr hs
  · rw [gc, no2 s (.inl fun z => hs (sB s z)), if_neg fun z => hs (lostL s z.1)]; rfl
  · by_cases z : s ∈ B
    · exact .inl z
    · rw [gc, no2 s (.inl z), if_neg fun y => z (lB s y.1)] at hs
      exact .inr hs
end
end Wg
set_option Elab.async false
set_option linter.all false
set_option maxRecDepth 100000
set_option maxHeartbeats 1000000
namespace Wg
theorem mod2_pD (t : Nat) : D.int ((t : Int).fmod 2) = pD (t % 2 == 0) := by
  have e : (t : Int).fmod 2 = ((t % 2 : Nat) : Int) := by
    rw [Int.fmod_eq_emod_of_nonneg _ (by decide)]; rfl
  rw [e]
  rcases Nat.mod_two_eq_zero_or_one t with h | h <;> rw [h] <;> rfl
theorem pD_nI (p : Bool) : pD p = nI (pN p) := by cases p <;> rfl
theorem one_sub (p : Bool) : D.int (1 - (if p then 0 else 1)) = pD (!p) := by cases p <;> rfl
theorem fmax_ge : ∀ (l : List Nat) (k : Nat), k ≤ l.foldl max k ∧ ∀ x ∈ l, x ≤ l.foldl max k
  | [], k => ⟨Nat.le_refl k, fun x h => nomatch h⟩
  | a :: l, k => by
    obtain ⟨h1, h2⟩ := fmax_ge l (max k a)
    refine ⟨Nat.le_trans (Nat.le_max_left k a) h1, fun x hx => ?_⟩
    rcases List.mem_cons.mp hx with e | e
    · subst e; exact Nat.le_trans (Nat.le_max_right k x) h1
    · exact h2 x e
theorem fmax_mem : ∀ (l : List Nat) (k : Nat), l.foldl max k = k ∨ l.foldl max k ∈ l
  | [], k => .inl rfl
  | a :: l, k => by
    rcases fmax_mem l (max k a) with h | h
    · rcases Nat.le_total k a with z | z
      · exact .inr (by rw [show (a :: l).foldl max k = l.foldl max (max k a) from rfl, h, Nat.max_eq_right z]; exact List.mem_cons_self)
      · exact .inl (by rw [show (a :: l).foldl max k = l.foldl max (max k a) from rfl, h, Nat.max_eq_left z])
    · exact .inr (List.mem_cons_of_mem _ h)
theorem neO_T {r p : Bool} (h : (!D.eqv (nI (pN r)) (pD p)) = true) : r = !p := by cases r <;> cases p <;> first | rfl | cases h
theorem neO_F {r p : Bool} (h : (!D.eqv (nI (pN r)) (pD p)) = false) : ¬ r = !p := by intro z; cases r <;> cases p <;> first | exact absurd z (by decide) | exact absurd h (by decide)
theorem neB_T {r p : Bool} (h : (!D.eqv (.int (if r then 0 else 1)) (pD p)) = true) : r = !p := by cases r <;> cases p <;> first | rfl | cases h
theorem neB_F {r p : Bool} (h : (!D.eqv (.int (if r then 0 else 1)) (pD p)) = false) : ¬ r = !p := by intro z; cases r <;> cases p <;> first | exact absurd z (by decide) | exact absurd h (by decide)
theorem any_nDT {l : List Nat} {i : Nat} (h : ((nD l).any fun z => D.eqv z (.int (i : Int))) = true) : decide (i ∈ l) = true := (any_nD l i).symm.trans h
theorem any_nDF {l : List Nat} {i : Nat} (h : ((nD l).any fun z => D.eqv z (.int (i : Int))) = false) : decide (i ∈ l) = false := (any_nD l i).symm.trans h
theorem nany_nDT {l : List Nat} {i : Nat} (h : (!((nD l).any fun z => D.eqv z (.int (i : Int)))) = true) : (!decide (i ∈ l)) = true := by rw [any_nD] at h; exact h
theorem nany_nDF {l : List Nat} {i : Nat} (h : (!((nD l).any fun z => D.eqv z (.int (i : Int)))) = false) : (!decide (i ∈ l)) = false := by rw [any_nD] at h; exact h
theorem solved_ok {P : Prog} (h201 : P.fns 201 = some f_solved_levels) (h68 : P.fns 68 = some f_drawn_within) (h227 : P.fns 227 = some f_ways_within) (h233 : P.fns 233 = some f_within) {b : Brd} (hb : b.length ≤ 1000) {lv : List Nat} (hlv : lv.length = b.length) :
    ∀ (k n : Nat) (X : List Nat), (∀ s ∈ X, s < b.length) → (∀ s ∈ X, lv.getD s 0 < k) → MP.Sub (gB b lv) (onL X) → ∀ Q : D → Prop, (∀ o c, Sol b lv (onL X) o c → Q (.tup [.dct (kvE nI o), .dct (kvE nI c)])) →
      run P (n + k + 3) 201 [bD b, .tup (nD lv), .tup (nD X)] Q := by
  intro k
  induction k with
  | zero =>
    intro n X hX hk hsub Q q
    have e0 : X = [] := List.eq_nil_iff_forall_not_mem.mpr fun s hs => Nat.not_lt_zero _ (hk s hs)
    subst e0
    refine run_of h201 (by decide) ?_
    (refine wF_at [.sh _, .sh _, .sh _, .un, .un, .un, .un, .un, .un, .un, .un, .un, .un, .un, .un, .un] rfl (by decide) rfl ?_)
    ((repeat ((conv => whnf); refine And.intro (by first | exact trivial | exact rfl | omega | assumption | decide | exact pls_nD _ _ | exact keysOk_kv _ _ _) ?_)); (conv => whnf))
    refine ⟨1, ?_⟩
    ((repeat ((conv => whnf); refine And.intro (by first | exact trivial | exact rfl | omega | assumption | decide | exact pls_nD _ _ | exact keysOk_kv _ _ _) ?_)); (conv => whnf))
    exact q [] [] ((SI.start hsub).done fun s hs => nomatch (show s ∈ [] from hs))
  | succ k ih =>
    intro n X hX hk hsub Q q
    refine run_of h201 (by decide) ?_
    (refine wF_at [.sh _, .sh _, .sh _, .un, .un, .un, .un, .un, .un, .un, .un, .un, .un, .un, .un, .un] rfl (by decide) rfl ?_)
    ((repeat ((conv => whnf); refine And.intro (by first | exact trivial | exact rfl | omega | assumption | decide | exact pls_nD _ _ | exact keysOk_kv _ _ _) ?_)); (conv => whnf))
    refine ⟨X.length + 1, whW_inv (fun N ρ => ∃ (L : List Nat) (o c : Dk Nat) (s6 s7 s8 s9 s10 s11 s12 s13 s14 : Slot), ρ = [.sh (bD b), .sh (.tup (nD lv)), .sh (.tup (nD X)), .od (kvE nI o), .od (kvE nI c), .sh (.tup (nD L)), s6, s7, s8, s9, s10, s11, s12, s13, s14, .un] ∧
      (∀ s ∈ L, s ∈ X) ∧ SI b lv (onL X) (onL L) o c ∧ N = L.length) ?_ X.length _ ⟨X, [], [], _, _, _, _, _, _, _, _, _, rfl, fun s h => h, .start hsub, rfl⟩ _ (by omega)⟩
    rintro N ρ K ⟨L, o, c, s6, s7, s8, s9, s10, s11, s12, s13, s14, rfl, hLX, hSI, hN⟩ hK
    ((repeat ((conv => whnf); refine And.intro (by first | exact trivial | exact rfl | omega | assumption | decide | exact pls_nD _ _ | exact keysOk_kv _ _ _) ?_)); (conv => whnf))
    refine bif_by (fun h => ?_) (fun h => ?_)
    · have hpos : 0 < L.length := by rw [← nD_len L]; exact lt_natT h
      have hL : ∀ s ∈ L, s < b.length := fun s hs => hX s (hLX s hs)
      ((repeat ((conv => whnf); refine And.intro (by first | exact trivial | exact rfl | omega | assumption | decide | exact pls_nD _ _ | exact keysOk_kv _ _ _) ?_)); (conv => whnf))
      refine lcW_onMap (fun (n : Nat) => D.int (n : Int)) (fun s => .int (lv.getD s 0 : Nat)) L (fun s hs K hK => ?_) ?_
      · have := hL s hs
        ((repeat ((conv => whnf); refine And.intro (by first | exact trivial | exact rfl | omega | assumption | decide | exact pls_nD _ _ | exact keysOk_kv _ _ _) ?_)); (conv => whnf))
        refine idxL_nat (nD_get (k := lv.getD s 0) (by simp [List.getD, show s < lv.length by omega])) ?_
        ((repeat ((conv => whnf); refine And.intro (by first | exact trivial | exact rfl | omega | assumption | decide | exact pls_nD _ _ | exact keysOk_kv _ _ _) ?_)); (conv => whnf))
        exact hK
      (try simp only [List.set_cons_succ, List.set_cons_zero, freezeI, wipeE, backE, freeze, freezes, behind, List.getElem?_cons_succ, List.getElem?_cons_zero, Slot.val, Option.getD_some, ite_self])
      ((repeat ((conv => whnf); refine And.intro (by first | exact trivial | exact rfl | omega | assumption | decide | exact pls_nD _ _ | exact keysOk_kv _ _ _) ?_)); (conv => whnf))
      rw [show L.map (fun s => D.int (lv.getD s 0 : Nat)) = nD (L.map fun s => lv.getD s 0) by unfold nD; rw [List.map_map]; rfl]
      obtain ⟨t0, tl, et⟩ := List.exists_cons_of_length_pos (show 0 < (L.map fun s => lv.getD s 0).length by simpa using hpos)
      refine max_okE et ?_
      have hge : ∀ s ∈ L, lv.getD s 0 ≤ tl.foldl max t0 := fun s hs => by
        have : lv.getD s 0 ∈ t0 :: tl := by rw [← et]; exact List.mem_map_of_mem hs
        rcases List.mem_cons.mp this with e | e
        · rw [e]; exact (fmax_ge tl t0).1
        · exact (fmax_ge tl t0).2 _ e
      have htop : ∃ s ∈ L, lv.getD s 0 = tl.foldl max t0 := by
        have : tl.foldl max t0 ∈ t0 :: tl := by
          rcases fmax_mem tl t0 with e | e
          · rw [e]; exact List.mem_cons_self
          · exact List.mem_cons_of_mem _ e
        rw [← et] at this
        obtain ⟨s, hs, e⟩ := List.mem_map.mp this
        exact ⟨s, hs, e⟩
      generalize tl.foldl max t0 = top at hge htop ⊢
      (try simp only [List.set_cons_succ, List.set_cons_zero, freezeI, wipeE, backE, freeze, freezes, behind, List.getElem?_cons_succ, List.getElem?_cons_zero, Slot.val, Option.getD_some, ite_self])
      ((repeat ((conv => whnf); refine And.intro (by first | exact trivial | exact rfl | omega | assumption | decide | exact pls_nD _ _ | exact keysOk_kv _ _ _) ?_)); (conv => whnf))
      refine lcW_on (fun (n : Nat) => D.int (n : Int)) (fun w => if decide (lv.getD w 0 = top) = true then some (.int (w : Int)) else none) L (fun w hw K hK => ?_) ?_
      · have := hL w hw
        ((repeat ((conv => whnf); refine And.intro (by first | exact trivial | exact rfl | omega | assumption | decide | exact pls_nD _ _ | exact keysOk_kv _ _ _) ?_)); (conv => whnf))
        refine idxL_nat (nD_get (k := lv.getD w 0) (by simp [List.getD, show w < lv.length by omega])) ?_
        ((repeat ((conv => whnf); refine And.intro (by first | exact trivial | exact rfl | omega | assumption | decide | exact pls_nD _ _ | exact keysOk_kv _ _ _) ?_)); (conv => whnf))
        refine bif_by (fun h => ?_) (fun h => ?_)
        · rw [if_pos (decide_eq_true (eqv_natT h))] at hK
          ((repeat ((conv => whnf); refine And.intro (by first | exact trivial | exact rfl | omega | assumption | decide | exact pls_nD _ _ | exact keysOk_kv _ _ _) ?_)); (conv => whnf))
          exact hK
        · rw [if_neg (fun z => eqv_natF h (of_decide_eq_true z))] at hK
          ((repeat ((conv => whnf); refine And.intro (by first | exact trivial | exact rfl | omega | assumption | decide | exact pls_nD _ _ | exact keysOk_kv _ _ _) ?_)); (conv => whnf))
          exact hK
      rw [filterMap_if]
      rw [mod2_pD]
      generalize hp : (top % 2 == 0) = p
      have hgoal : ∀ s, s ∈ L.filter (fun w => decide (lv.getD w 0 = top)) ↔ s ∈ L ∧ lv.getD s 0 = top := fun s => by rw [List.mem_filter]; simp
      rw [show (L.filter (fun w => decide (lv.getD w 0 = top))).map (fun (w : Nat) => D.int (w : Int)) = nD (L.filter (fun w => decide (lv.getD w 0 = top))) from rfl]
      generalize L.filter (fun w => decide (lv.getD w 0 = top)) = goal at hgoal ⊢
      (try simp only [List.set_cons_succ, List.set_cons_zero, freezeI, wipeE, backE, freeze, freezes, behind, List.getElem?_cons_succ, List.getElem?_cons_zero, Slot.val, Option.getD_some, ite_self])
      ((repeat ((conv => whnf); refine And.intro (by first | exact trivial | exact rfl | omega | assumption | decide | exact pls_nD _ _ | exact keysOk_kv _ _ _) ?_)); (conv => whnf))
      refine run_of h68 (by decide) (drawn_within_ok _ hb (fun X Q hq => run_of h233 (by decide) (within_ok _ hb hq)) lv p hL (fun s hs => ((hgoal s).mp hs).1) fun m ch1 okc1 hA => ?_)
      generalize L.filter (fun s => (getN m s).isSome) = A at hA ⊢
      (try simp only [List.set_cons_succ, List.set_cons_zero, freezeI, wipeE, backE, freeze, freezes, behind, List.getElem?_cons_succ, List.getElem?_cons_zero, Slot.val, Option.getD_some, ite_self])
      ((repeat ((conv => whnf); refine And.intro (by first | exact trivial | exact rfl | omega | assumption | decide | exact pls_nD _ _ | exact keysOk_kv _ _ _) ?_)); (conv => whnf))
      refine lcW_on (fun (n : Nat) => D.int (n : Int)) (fun w => if (!decide (w ∈ A)) = true then some (.int (w : Int)) else none) L (fun w hw K hK => ?_) ?_
      · ((repeat ((conv => whnf); refine And.intro (by first | exact trivial | exact rfl | omega | assumption | decide | exact pls_nD _ _ | exact keysOk_kv _ _ _) ?_)); (conv => whnf))
        refine bif_by (fun h => ?_) (fun h => ?_)
        · rw [if_pos (nany_nDT h)] at hK
          ((repeat ((conv => whnf); refine And.intro (by first | exact trivial | exact rfl | omega | assumption | decide | exact pls_nD _ _ | exact keysOk_kv _ _ _) ?_)); (conv => whnf))
          exact hK
        · rw [if_neg (by rw [nany_nDF h]; decide)] at hK
          ((repeat ((conv => whnf); refine And.intro (by first | exact trivial | exact rfl | omega | assumption | decide | exact pls_nD _ _ | exact keysOk_kv _ _ _) ?_)); (conv => whnf))
          exact hK
      rw [filterMap_if]
      (try simp only [List.set_cons_succ, List.set_cons_zero, freezeI, wipeE, backE, freeze, freezes, behind, List.getElem?_cons_succ, List.getElem?_cons_zero, Slot.val, Option.getD_some, ite_self])
      ((repeat ((conv => whnf); refine And.intro (by first | exact trivial | exact rfl | omega | assumption | decide | exact pls_nD _ _ | exact keysOk_kv _ _ _) ?_)); (conv => whnf))
      refine ih n (L.filter fun s => !decide (s ∈ A)) (fun s hs => hL s (List.mem_filter.mp hs).1) (fun s hs => ?_) (by rw [rest_eq]; exact hA.rest hSI.rest) _ fun oI cI hI => ?_
      · obtain ⟨h1, h2⟩ := List.mem_filter.mp hs
        have h2 : ¬ s ∈ A := by simpa using h2
        have h3 := hge s h1
        have h4 : lv.getD s 0 ≠ top := fun z => h2 (hA.inn s ((hgoal s).mpr ⟨h1, z⟩))
        obtain ⟨s', h5, h6⟩ := htop
        have := hk s' (hLX s' h5)
        omega
      (try simp only [List.set_cons_succ, List.set_cons_zero, freezeI, wipeE, backE, freeze, freezes, behind, List.getElem?_cons_succ, List.getElem?_cons_zero, Slot.val, Option.getD_some, ite_self])
      ((repeat ((conv => whnf); refine And.intro (by first | exact trivial | exact rfl | omega | assumption | decide | exact pls_nD _ _ | exact keysOk_kv _ _ _) ?_)); (conv => whnf))
      rw [keys_kv]
      have hval : ∀ s ∈ oI.map Prod.fst, ∃ r, getN oI s = some (pN r) := fun s hs => hI.all s (hI.domo s (getN_some_iff.mpr hs))
      refine lcW_on (fun (n : Nat) => D.int (n : Int)) (fun w => if decide (getN oI w = some (pN (!p))) = true then some (.int (w : Int)) else none) (oI.map Prod.fst) (fun w hw K hK => ?_) ?_
      · obtain ⟨r, hr⟩ := hval w hw
        ((repeat ((conv => whnf); refine And.intro (by first | exact trivial | exact rfl | omega | assumption | decide | exact pls_nD _ _ | exact keysOk_kv _ _ _) ?_)); (conv => whnf))
        rw [look_kv, hr]
        ((repeat ((conv => whnf); refine And.intro (by first | exact trivial | exact rfl | omega | assumption | decide | exact pls_nD _ _ | exact keysOk_kv _ _ _) ?_)); (conv => whnf))
        refine bif_by (fun h => ?_) (fun h => ?_)
        · rw [if_pos (decide_eq_true (by rw [hr, neO_T h]))] at hK
          ((repeat ((conv => whnf); refine And.intro (by first | exact trivial | exact rfl | omega | assumption | decide | exact pls_nD _ _ | exact keysOk_kv _ _ _) ?_)); (conv => whnf))
          exact hK
        · rw [if_neg (fun z => neO_F h (pN_inj (Option.some.inj (hr.symm.trans (of_decide_eq_true z)))))] at hK
          ((repeat ((conv => whnf); refine And.intro (by first | exact trivial | exact rfl | omega | assumption | decide | exact pls_nD _ _ | exact keysOk_kv _ _ _) ?_)); (conv => whnf))
          exact hK
      rw [filterMap_if]
      have hlost : ∀ s, s ∈ (oI.map Prod.fst).filter (fun w => decide (getN oI w = some (pN (!p)))) ↔ wonBy oI (!p) s := fun s => by
        rw [List.mem_filter]
        exact ⟨fun z => of_decide_eq_true (p := getN oI s = some (pN (!p))) z.2, fun z => ⟨getN_some_iff.mp z.some, decide_eq_true (p := getN oI s = some (pN (!p))) z⟩⟩
      rw [show ((oI.map Prod.fst).filter (fun w => decide (getN oI w = some (pN (!p))))).map (fun (w : Nat) => D.int (w : Int)) = nD ((oI.map Prod.fst).filter (fun w => decide (getN oI w = some (pN (!p))))) from rfl]
      generalize (oI.map Prod.fst).filter (fun w => decide (getN oI w = some (pN (!p)))) = lost at hlost ⊢
      (try simp only [List.set_cons_succ, List.set_cons_zero, freezeI, wipeE, backE, freeze, freezes, behind, List.getElem?_cons_succ, List.getElem?_cons_zero, Slot.val, Option.getD_some, ite_self])
      ((repeat ((conv => whnf); refine And.intro (by first | exact trivial | exact rfl | omega | assumption | decide | exact pls_nD _ _ | exact keysOk_kv _ _ _) ?_)); (conv => whnf))
      have olO := DOk.len hSI.oko
      have olC := DOk.len hSI.okc
      refine bif_by (fun h => ?_) (fun h => ?_)
      · have h0 : lost.length = 0 := by rw [← nD_len lost]; exact eqv_natT h
        ((repeat ((conv => whnf); refine And.intro (by first | exact trivial | exact rfl | omega | assumption | decide | exact pls_nD _ _ | exact keysOk_kv _ _ _) ?_)); (conv => whnf))
        refine dcW_by nI L (fun _ => true) (fun _ => pN p) (fun s hs K hK => ?_) ?_
        · ((repeat ((conv => whnf); refine And.intro (by first | exact trivial | exact rfl | omega | assumption | decide | exact pls_nD _ _ | exact keysOk_kv _ _ _) ?_)); (conv => whnf))
          rw [if_pos rfl, ← pD_nI] at hK
          exact hK
        have okb : DOk b.length (byN L (fun _ => true) fun _ => pN p) := DOk.by _ _ _ hL
        have olb := DOk.len okb
        (try simp only [List.set_cons_succ, List.set_cons_zero, freezeI, wipeE, backE, freeze, freezes, behind, List.getElem?_cons_succ, List.getElem?_cons_zero, Slot.val, Option.getD_some, ite_self])
        ((repeat ((conv => whnf); refine And.intro (by first | exact trivial | exact rfl | omega | assumption | decide | exact pls_nD _ _ | exact keysOk_kv _ _ _) ?_)); (conv => whnf))
        refine And.intro (by rw [kv_len, kv_len]; unfold LB; omega) (And.intro (leafs_kv _ _ _) ?_)
        rw [putAll_kv]
        have okc2 := hSI.okc.putAll hI.okc.all
        have okc3 := okc2.putAll okc1.all
        have ol1 := DOk.len okc1
        have olI := DOk.len hI.okc
        have ol2 := DOk.len okc2
        have ol3 := DOk.len okc3
        (try simp only [List.set_cons_succ, List.set_cons_zero, freezeI, wipeE, backE, freeze, freezes, behind, List.getElem?_cons_succ, List.getElem?_cons_zero, Slot.val, Option.getD_some, ite_self])
        ((repeat ((conv => whnf); refine And.intro (by first | exact trivial | exact rfl | omega | assumption | decide | exact pls_nD _ _ | exact keysOk_kv _ _ _) ?_)); (conv => whnf))
        refine And.intro (by rw [kv_len, kv_len]; unfold LB; omega) (And.intro (leafs_kv _ _ _) ?_)
        (try simp only [List.set_cons_succ, List.set_cons_zero, freezeI, wipeE, backE, freeze, freezes, behind, List.getElem?_cons_succ, List.getElem?_cons_zero, Slot.val, Option.getD_some, ite_self])
        rw [putAll_kv]
        (try simp only [List.set_cons_succ, List.set_cons_zero, freezeI, wipeE, backE, freeze, freezes, behind, List.getElem?_cons_succ, List.getElem?_cons_zero, Slot.val, Option.getD_some, ite_self])
        ((repeat ((conv => whnf); refine And.intro (by first | exact trivial | exact rfl | omega | assumption | decide | exact pls_nD _ _ | exact keysOk_kv _ _ _) ?_)); (conv => whnf))
        refine And.intro (by rw [kv_len, kv_len]; unfold LB; omega) (And.intro (leafs_kv _ _ _) ?_)
        (try simp only [List.set_cons_succ, List.set_cons_zero, freezeI, wipeE, backE, freeze, freezes, behind, List.getElem?_cons_succ, List.getElem?_cons_zero, Slot.val, Option.getD_some, ite_self])
        rw [putAll_kv]
        (try simp only [List.set_cons_succ, List.set_cons_zero, freezeI, wipeE, backE, freeze, freezes, behind, List.getElem?_cons_succ, List.getElem?_cons_zero, Slot.val, Option.getD_some, ite_self])
        ((repeat ((conv => whnf); refine And.intro (by first | exact trivial | exact rfl | omega | assumption | decide | exact pls_nD _ _ | exact keysOk_kv _ _ _) ?_)); (conv => whnf))
        refine run_of h227 (by decide) (ways_within_ok _ hb p (fun s hs => hL s ((hgoal s).mp hs).1) (fun s hs => hSI.rest s ((hgoal s).mp hs).1) fun cg okg hg1 hg2 => ?_)
        have olg := DOk.len okg
        (try simp only [List.set_cons_succ, List.set_cons_zero, freezeI, wipeE, backE, freeze, freezes, behind, List.getElem?_cons_succ, List.getElem?_cons_zero, Slot.val, Option.getD_some, ite_self])
        ((repeat ((conv => whnf); refine And.intro (by first | exact trivial | exact rfl | omega | assumption | decide | exact pls_nD _ _ | exact keysOk_kv _ _ _) ?_)); (conv => whnf))
        refine And.intro (by rw [kv_len, kv_len]; unfold LB; omega) (And.intro (leafs_kv _ _ _) ?_)
        (try simp only [List.set_cons_succ, List.set_cons_zero, freezeI, wipeE, backE, freeze, freezes, behind, List.getElem?_cons_succ, List.getElem?_cons_zero, Slot.val, Option.getD_some, ite_self])
        rw [putAll_kv]
        (try simp only [List.set_cons_succ, List.set_cons_zero, freezeI, wipeE, backE, freeze, freezes, behind, List.getElem?_cons_succ, List.getElem?_cons_zero, Slot.val, Option.getD_some, ite_self])
        ((repeat ((conv => whnf); refine And.intro (by first | exact trivial | exact rfl | omega | assumption | decide | exact pls_nD _ _ | exact keysOk_kv _ _ _) ?_)); (conv => whnf))
        refine q _ _ (hSI.last' hL hp hge hgoal hA okc1 hI (fun s hs => ?_) okg hg1 hg2)
        have := (hlost s).mpr hs
        rw [List.eq_nil_of_length_eq_zero h0] at this
        exact nomatch this
      · have h0 : ¬ lost.length = 0 := by rw [← nD_len lost]; exact eqv_natF h
        have lostL : ∀ s, s ∈ lost → s ∈ L := fun s hs => by
          have := hI.domo s ((hlost s).mp hs).some
          rw [rest_eq] at this
          exact this.1
        ((repeat ((conv => whnf); refine And.intro (by first | exact trivial | exact rfl | omega | assumption | decide | exact pls_nD _ _ | exact keysOk_kv _ _ _) ?_)); (conv => whnf))
        rw [one_sub]
        refine run_of h68 (by decide) (drawn_within_ok _ hb (fun X Q hq => run_of h233 (by decide) (within_ok _ hb hq)) lv (!p) hL lostL fun m2 ch2 okc2 hB => ?_)
        have hBL : ∀ s ∈ L.filter (fun s => (getN m2 s).isSome), s < b.length := fun s hs => hL s (List.mem_filter.mp hs).1
        generalize L.filter (fun s => (getN m2 s).isSome) = B at hB hBL ⊢
        (try simp only [List.set_cons_succ, List.set_cons_zero, freezeI, wipeE, backE, freeze, freezes, behind, List.getElem?_cons_succ, List.getElem?_cons_zero, Slot.val, Option.getD_some, ite_self])
        ((repeat ((conv => whnf); refine And.intro (by first | exact trivial | exact rfl | omega | assumption | decide | exact pls_nD _ _ | exact keysOk_kv _ _ _) ?_)); (conv => whnf))
        refine dcW_by nI B (fun _ => true) (fun _ => pN (!p)) (fun s hs K hK => ?_) ?_
        · ((repeat ((conv => whnf); refine And.intro (by first | exact trivial | exact rfl | omega | assumption | decide | exact pls_nD _ _ | exact keysOk_kv _ _ _) ?_)); (conv => whnf))
          rw [if_pos rfl, ← pD_nI, ← one_sub] at hK
          exact hK
        have okb : DOk b.length (byN B (fun _ => true) fun _ => pN (!p)) := DOk.by _ _ _ hBL
        have olb := DOk.len okb
        (try simp only [List.set_cons_succ, List.set_cons_zero, freezeI, wipeE, backE, freeze, freezes, behind, List.getElem?_cons_succ, List.getElem?_cons_zero, Slot.val, Option.getD_some, ite_self])
        ((repeat ((conv => whnf); refine And.intro (by first | exact trivial | exact rfl | omega | assumption | decide | exact pls_nD _ _ | exact keysOk_kv _ _ _) ?_)); (conv => whnf))
        refine And.intro (by rw [kv_len, kv_len]; unfold LB; omega) (And.intro (leafs_kv _ _ _) ?_)
        rw [putAll_kv]
        (try simp only [List.set_cons_succ, List.set_cons_zero, freezeI, wipeE, backE, freeze, freezes, behind, List.getElem?_cons_succ, List.getElem?_cons_zero, Slot.val, Option.getD_some, ite_self])
        ((repeat ((conv => whnf); refine And.intro (by first | exact trivial | exact rfl | omega | assumption | decide | exact pls_nD _ _ | exact keysOk_kv _ _ _) ?_)); (conv => whnf))
        refine dcW_by nI lost (fun s => decide ((spot b s).1 = !p)) (fun s => (getN cI s).getD 0) (fun s hs K hK => ?_) ?_
        · have hsp := spot_get (hL s (lostL s hs))
          ((repeat ((conv => whnf); refine And.intro (by first | exact trivial | exact rfl | omega | assumption | decide | exact pls_nD _ _ | exact keysOk_kv _ _ _) ?_)); (conv => whnf))
          refine idxL_nat (d := spD (spot b s)) (by simp [hsp]) ?_
          ((repeat ((conv => whnf); refine And.intro (by first | exact trivial | exact rfl | omega | assumption | decide | exact pls_nD _ _ | exact keysOk_kv _ _ _) ?_)); (conv => whnf))
          refine bif_by (fun h => ?_) (fun h => ?_)
          · have ho := neB_T h
            obtain ⟨w, ew, _⟩ := (hI.win (!p)).mine s ((hlost s).mp hs) ho
            rw [if_pos (decide_eq_true ho), ew] at hK
            ((repeat ((conv => whnf); refine And.intro (by first | exact trivial | exact rfl | omega | assumption | decide | exact pls_nD _ _ | exact keysOk_kv _ _ _) ?_)); (conv => whnf))
            rw [look_kv, ew]
            ((repeat ((conv => whnf); refine And.intro (by first | exact trivial | exact rfl | omega | assumption | decide | exact pls_nD _ _ | exact keysOk_kv _ _ _) ?_)); (conv => whnf))
            exact hK
          · rw [if_neg (fun z => neB_F h (of_decide_eq_true z))] at hK
            ((repeat ((conv => whnf); refine And.intro (by first | exact trivial | exact rfl | omega | assumption | decide | exact pls_nD _ _ | exact keysOk_kv _ _ _) ?_)); (conv => whnf))
            exact hK
        have okl : DOk b.length (byN lost (fun s => decide ((spot b s).1 = !p)) fun s => (getN cI s).getD 0) := DOk.by _ _ _ fun s hs => hL s (lostL s hs)
        have oll := DOk.len okl
        have okc3 := hSI.okc.putAll okl.all
        have ol2 := DOk.len okc2
        have ol3 := DOk.len okc3
        (try simp only [List.set_cons_succ, List.set_cons_zero, freezeI, wipeE, backE, freeze, freezes, behind, List.getElem?_cons_succ, List.getElem?_cons_zero, Slot.val, Option.getD_some, ite_self])
        ((repeat ((conv => whnf); refine And.intro (by first | exact trivial | exact rfl | omega | assumption | decide | exact pls_nD _ _ | exact keysOk_kv _ _ _) ?_)); (conv => whnf))
        refine And.intro (by rw [kv_len, kv_len]; unfold LB; omega) (And.intro (leafs_kv _ _ _) ?_)
        (try simp only [List.set_cons_succ, List.set_cons_zero, freezeI, wipeE, backE, freeze, freezes, behind, List.getElem?_cons_succ, List.getElem?_cons_zero, Slot.val, Option.getD_some, ite_self])
        rw [putAll_kv]
        (try simp only [List.set_cons_succ, List.set_cons_zero, freezeI, wipeE, backE, freeze, freezes, behind, List.getElem?_cons_succ, List.getElem?_cons_zero, Slot.val, Option.getD_some, ite_self])
        ((repeat ((conv => whnf); refine And.intro (by first | exact trivial | exact rfl | omega | assumption | decide | exact pls_nD _ _ | exact keysOk_kv _ _ _) ?_)); (conv => whnf))
        refine And.intro (by rw [kv_len, kv_len]; unfold LB; omega) (And.intro (leafs_kv _ _ _) ?_)
        (try simp only [List.set_cons_succ, List.set_cons_zero, freezeI, wipeE, backE, freeze, freezes, behind, List.getElem?_cons_succ, List.getElem?_cons_zero, Slot.val, Option.getD_some, ite_self])
        rw [putAll_kv]
        (try simp only [List.set_cons_succ, List.set_cons_zero, freezeI, wipeE, backE, freeze, freezes, behind, List.getElem?_cons_succ, List.getElem?_cons_zero, Slot.val, Option.getD_some, ite_self])
        ((repeat ((conv => whnf); refine And.intro (by first | exact trivial | exact rfl | omega | assumption | decide | exact pls_nD _ _ | exact keysOk_kv _ _ _) ?_)); (conv => whnf))
        refine lcW_on (fun (n : Nat) => D.int (n : Int)) (fun w => if (!decide (w ∈ B)) = true then some (.int (w : Int)) else none) L (fun w hw K hK => ?_) ?_
        · ((repeat ((conv => whnf); refine And.intro (by first | exact trivial | exact rfl | omega | assumption | decide | exact pls_nD _ _ | exact keysOk_kv _ _ _) ?_)); (conv => whnf))
          refine bif_by (fun h => ?_) (fun h => ?_)
          · rw [if_pos (nany_nDT h)] at hK
            ((repeat ((conv => whnf); refine And.intro (by first | exact trivial | exact rfl | omega | assumption | decide | exact pls_nD _ _ | exact keysOk_kv _ _ _) ?_)); (conv => whnf))
            exact hK
          · rw [if_neg (by rw [nany_nDF h]; decide)] at hK
            ((repeat ((conv => whnf); refine And.intro (by first | exact trivial | exact rfl | omega | assumption | decide | exact pls_nD _ _ | exact keysOk_kv _ _ _) ?_)); (conv => whnf))
            exact hK
        rw [filterMap_if]
        (try simp only [List.set_cons_succ, List.set_cons_zero, freezeI, wipeE, backE, freeze, freezes, behind, List.getElem?_cons_succ, List.getElem?_cons_zero, Slot.val, Option.getD_some, ite_self])
        ((repeat ((conv => whnf); refine And.intro (by first | exact trivial | exact rfl | omega | assumption | decide | exact pls_nD _ _ | exact keysOk_kv _ _ _) ?_)); (conv => whnf))
        have hnext := hSI.step' hL hA hI hlost hB okc2
        rw [← rest_eq] at hnext
        refine hK (L.filter fun s => !decide (s ∈ B)).length _ ?_ ⟨_, _, _, _, _, _, _, _, _, _, _, _, rfl, fun s hs => hLX s (List.mem_filter.mp hs).1, hnext, rfl⟩
        rw [hN]
        obtain ⟨s, l, e⟩ := List.exists_cons_of_ne_nil (fun z : lost = [] => h0 (by rw [z]; rfl))
        have hs : s ∈ lost := by rw [e]; exact List.mem_cons_self
        refine List.length_filter_lt_length_iff_exists.mpr ⟨s, lostL s hs, ?_⟩
        have : s ∈ B := hB.inn s hs
        simp [this]
    · have hpos : ¬ 0 < L.length := by rw [← nD_len L]; exact lt_natF h
      have e0 : L = [] := List.eq_nil_of_length_eq_zero (by omega)
      ((repeat ((conv => whnf); refine And.intro (by first | exact trivial | exact rfl | omega | assumption | decide | exact pls_nD _ _ | exact keysOk_kv _ _ _) ?_)); (conv => whnf))
      refine q _ _ (hSI.done fun s hs => ?_)
      rw [e0] at hs
      exact nomatch (show s ∈ [] from hs)
end Wg
set_option Elab.async false
set_option linter.all false
namespace MP
def iter (f : Nat → Nat) (s : Nat) : Nat → Nat
  | 0 => s
  | n + 1 => f (iter f s n)
theorem iter_walk {E : Nat → Nat → Prop} {lev : Nat → Nat} {f : Nat → Nat} {s i : Nat} (h : ∀ j, E (iter f s j) (f (iter f s j))) : ∀ k, ∃ m, Wlk E lev (iter f s i) (iter f s (i + (k + 1))) m
  | 0 => ⟨_, .one (h i)⟩
  | k + 1 => by
    obtain ⟨m, w⟩ := iter_walk (i := i) h k
    exact ⟨_, w.trans (.one (h (i + (k + 1))))⟩
/-- a play among few spots comes round -/
theorem comes_round {E : Nat → Nat → Prop} {lev : Nat → Nat} {f : Nat → Nat} {n s : Nat} (A : Nat → Prop) (hs : A s) (step : ∀ a, A a → A (f a) ∧ E a (f a)) (fin : ∀ a, A a → a < n) :
    ∃ t m, A t ∧ (t = s ∨ ∃ m', Wlk E lev s t m') ∧ Wlk E lev t t m := by
  have hA : ∀ j, A (iter f s j) := fun j => by
    induction j with
    | zero => exact hs
    | succ j ih => exact (step _ ih).1
  have hE : ∀ j, E (iter f s j) (f (iter f s j)) := fun j => (step _ (hA j)).2
  have rep : ∃ i j, i < j ∧ iter f s i = iter f s j := by
    refine Classical.byContradiction fun no => ?_
    have nd : ((List.range (n + 1)).map (iter f s)).Nodup := by
      refine List.pairwise_map.mpr (List.Pairwise.imp_of_mem ?_ List.pairwise_lt_range)
      intro a b _ _ hab e
      exact no ⟨a, b, hab, e⟩
    have := Wg.len_le n _ nd fun k hk => by
      obtain ⟨j, _, rfl⟩ := List.mem_map.mp hk
      exact fin _ (hA j)
    simp at this
    omega
  obtain ⟨i, j, hij, e⟩ := rep
  obtain ⟨k, rfl⟩ : ∃ k, j = i + (k + 1) := ⟨j - i - 1, by omega⟩
  obtain ⟨m, w⟩ := iter_walk (lev := lev) (i := i) hE k
  rw [← e] at w
  refine ⟨iter f s i, m, hA i, ?_, w⟩
  cases i with
  | zero => exact .inl rfl
  | succ i =>
    obtain ⟨m', w'⟩ := iter_walk (lev := lev) (i := 0) hE i
    rw [Nat.zero_add] at w'
    exact .inr ⟨m', w'⟩
section
variable {g : G} {X W W' : St} {p q : Bool} {σ τ : Sg}
/-- one spot is not won by both -/
theorem Win.disj {n : Nat} (fin : ∀ s, X s → s < n) (hX : Sub g X) (hp : q ≠ p) (h : Win g X p W σ) (h' : Win g X q W' τ) {s : Nat} (hs : W s) (hs' : W' s) : False := by
  have other : ∀ a, g.own a ≠ p → g.own a = q := fun a z => by
    cases h1 : g.own a <;> cases p <;> cases q <;> simp_all
  obtain ⟨t, m, ⟨ht, ht'⟩, _, w⟩ := comes_round (E := fun a b => Ed g p X W σ a b ∧ Ed g q X W' τ a b) (lev := g.lev) (n := n) (f := fun a => if g.own a = p then (σ a).getD 0 else (τ a).getD 0) (fun a => W a ∧ W' a) ⟨hs, hs'⟩ (fun a ⟨ha, ha'⟩ => by
    by_cases ho : g.own a = p
    · have hq : g.own a ≠ q := fun z => hp (z.symm.trans ho)
      obtain ⟨w, e, h1, h2⟩ := h.mine a ha ho
      have hx := h.sub w h2
      have e2 : (if g.own a = p then (σ a).getD 0 else (τ a).getD 0) = w := by rw [if_pos ho, e]; rfl
      rw [e2]
      exact ⟨⟨h2, h'.other a ha' hq w h1 hx⟩, ⟨ha, h1, hx, fun _ => e⟩, ⟨ha', h1, hx, fun z => (hq z).elim⟩⟩
    · have hq := other a ho
      obtain ⟨w, e, h1, h2⟩ := h'.mine a ha' hq
      have hx := h'.sub w h2
      have e2 : (if g.own a = p then (σ a).getD 0 else (τ a).getD 0) = w := by rw [if_neg ho, e]; rfl
      rw [e2]
      exact ⟨⟨h.other a ha ho w h1 hx, h2⟩, ⟨ha, h1, hx, fun z => (ho z).elim⟩, ⟨ha', h1, hx, fun _ => e⟩⟩) (fun a ha => fin a (h.sub a ha.1))
  have r1 := h.ring t m (w.mono fun a b e => e.1)
  have r2 := h'.ring t m (w.mono fun a b e => e.2)
  exact hp (r2.symm.trans r1)
end
end MP
set_option Elab.async false
set_option linter.all false
set_option maxRecDepth 100000
set_option maxHeartbeats 1000000
namespace Wg
def bE (b : Brd) : Nat → Nat → Prop := fun s t => s < b.length ∧ t ∈ (spot b s).2
structure NB (b : Brd) : Prop where
  small : b.length ≤ 1000
  lt : ∀ s, s < b.length → ∀ w ∈ (spot b s).2, w < b.length
  nd : ∀ s, s < b.length → (spot b s).2.Nodup
theorem inB_NB {b : Brd} (h : NB b) (X : List Nat) : NB (inB b X) := by
  refine ⟨by rw [inB_len]; exact h.small, fun s hs w hw => ?_, fun s hs => ?_⟩
  · rw [inB_len] at hs ⊢
    rw [inB_spot hs] at hw
    simp only at hw
    split at hw
    · exact h.lt s hs w (List.mem_filter.mp hw).1
    · exact nomatch hw
  · rw [inB_len] at hs
    rw [inB_spot hs]
    simp only
    split
    · exact List.Pairwise.filter _ (h.nd s hs)
    · exact List.Pairwise.nil
theorem reached_ok (Φ : Ctx) {b : Brd} (hB : NB b) (lev : Nat → Nat) {start : Nat} (hs : start < b.length) {Q : D → Prop} (q : ∀ X : List Nat, (∀ x ∈ X, x < b.length) → (∀ x ∈ X, x = start ∨ ∃ m, MP.Wlk (bE b) lev start x m) → Q (.tup (nD X))) :
    wF Φ f_reached_from [bD b, .int (start : Int)] Q := by
  have hb := hB.small
  (refine wF_at [.sh _, .sh _, .un, .un, .un] rfl (by decide) rfl ?_)
  ((repeat ((conv => whnf); refine And.intro (by first | exact trivial | exact rfl | omega | assumption | decide | exact pls_nD _ _ | exact keysOk_kv _ _ _) ?_)); (conv => whnf))
  refine ⟨b.length + 1, whW_inv (fun N ρ => ∃ (F : List Nat) (i : Nat), ρ = [.sh (bD b), .sh (.int (start : Int)), .ol (nD F), .sh (.int (i : Int)), .un] ∧ i ≤ F.length ∧ F.Nodup ∧ (∀ x ∈ F, x < b.length) ∧ (∀ x ∈ F, x = start ∨ ∃ m, MP.Wlk (bE b) lev start x m) ∧ N = b.length - i) ?_ b.length _
    ⟨[start], 0, rfl, Nat.zero_le _, by simp, fun x hx => by simp at hx; omega, fun x hx => by simp at hx; exact .inl hx, rfl⟩ _ (by omega)⟩
  rintro N ρ K ⟨F, i, rfl, hi, nd, hlt, hre, hN⟩ hK
  have flen := len_le _ F nd hlt
  ((repeat ((conv => whnf); refine And.intro (by first | exact trivial | exact rfl | omega | assumption | decide | exact pls_nD _ _ | exact keysOk_kv _ _ _) ?_)); (conv => whnf))
  refine bif_by (fun h => ?_) (fun h => ?_)
  · have hil : i < F.length := by rw [← nD_len F]; exact lt_natT h
    have hsx := hlt F[i] (List.getElem_mem hil)
    have hrx := hre F[i] (List.getElem_mem hil)
    have hsp := spot_get hsx
    ((repeat ((conv => whnf); refine And.intro (by first | exact trivial | exact rfl | omega | assumption | decide | exact pls_nD _ _ | exact keysOk_kv _ _ _) ?_)); (conv => whnf))
    refine idxL_nat (nD_get (k := F[i]) (by simp [hil])) ?_
    ((repeat ((conv => whnf); refine And.intro (by first | exact trivial | exact rfl | omega | assumption | decide | exact pls_nD _ _ | exact keysOk_kv _ _ _) ?_)); (conv => whnf))
    refine idxL_nat (d := spD (spot b F[i])) (by simp [hsp]) ?_
    generalize F[i] = s at hsx hrx hsp ⊢
    ((repeat ((conv => whnf); refine And.intro (by first | exact trivial | exact rfl | omega | assumption | decide | exact pls_nD _ _ | exact keysOk_kv _ _ _) ?_)); (conv => whnf))
    refine lcW_on (fun (n : Nat) => D.int (n : Int)) (fun w => if (!decide (w ∈ F)) = true then some (.int (w : Int)) else none) (spot b s).2 (fun w hw K hK => ?_) ?_
    · ((repeat ((conv => whnf); refine And.intro (by first | exact trivial | exact rfl | omega | assumption | decide | exact pls_nD _ _ | exact keysOk_kv _ _ _) ?_)); (conv => whnf))
      refine bif_by (fun h => ?_) (fun h => ?_)
      · rw [if_pos (nany_nDT h)] at hK
        ((repeat ((conv => whnf); refine And.intro (by first | exact trivial | exact rfl | omega | assumption | decide | exact pls_nD _ _ | exact keysOk_kv _ _ _) ?_)); (conv => whnf))
        exact hK
      · rw [if_neg (by rw [nany_nDF h]; decide)] at hK
        ((repeat ((conv => whnf); refine And.intro (by first | exact trivial | exact rfl | omega | assumption | decide | exact pls_nD _ _ | exact keysOk_kv _ _ _) ?_)); (conv => whnf))
        exact hK
    rw [filterMap_if]
    rw [show ((spot b s).2.filter (fun w => !decide (w ∈ F))).map (fun (w : Nat) => D.int (w : Int)) = nD ((spot b s).2.filter (fun w => !decide (w ∈ F))) from rfl]
    have hm : ∀ w, w ∈ (spot b s).2.filter (fun w => !decide (w ∈ F)) → w ∈ (spot b s).2 ∧ ¬ w ∈ F := fun w hw => by
      obtain ⟨h1, h2⟩ := List.mem_filter.mp hw
      exact ⟨h1, by simpa using h2⟩
    have hmnd : ((spot b s).2.filter (fun w => !decide (w ∈ F))).Nodup := List.Pairwise.filter _ (hB.nd s hsx)
    generalize (spot b s).2.filter (fun w => !decide (w ∈ F)) = M at hm hmnd ⊢
    have nd2 : (F ++ M).Nodup := by
      rw [List.nodup_append]
      refine ⟨nd, hmnd, fun a ha c hc => ?_⟩
      rintro rfl
      exact (hm a hc).2 ha
    have lt2 : ∀ x ∈ F ++ M, x < b.length := fun x hx => by
      rcases List.mem_append.mp hx with z | z
      · exact hlt x z
      · exact hB.lt s hsx x (hm x z).1
    have flen2 := len_le _ _ nd2 lt2
    rw [List.length_append] at flen2
    (try simp only [List.set_cons_succ, List.set_cons_zero, freezeI, wipeE, backE, freeze, freezes, behind, List.getElem?_cons_succ, List.getElem?_cons_zero, Slot.val, Option.getD_some, ite_self])
    ((repeat ((conv => whnf); refine And.intro (by first | exact trivial | exact rfl | omega | assumption | decide | exact pls_nD _ _ | exact keysOk_kv _ _ _) ?_)); (conv => whnf))
    refine And.intro (by rw [nD_len, nD_len]; unfold LB; omega) ?_
    refine hK (b.length - (i + 1)) _ (by omega) ⟨F ++ M, i + 1, ?_, by simp; omega, nd2, lt2, fun x hx => ?_, rfl⟩
    · (try simp only [List.set_cons_succ, List.set_cons_zero, freezeI, wipeE, backE, freeze, freezes, behind, List.getElem?_cons_succ, List.getElem?_cons_zero, Slot.val, Option.getD_some, ite_self])
      rw [show nD F ++ nD M = nD (F ++ M) by simp [nD]]
      rfl
    · rcases List.mem_append.mp hx with z | z
      · exact hre x z
      · rcases hrx with rfl | ⟨m, w⟩
        · exact .inr ⟨_, .one ⟨hsx, (hm x z).1⟩⟩
        · exact .inr ⟨_, w.trans (.one ⟨hsx, (hm x z).1⟩)⟩
  · have hil : ¬ i < F.length := by rw [← nD_len F]; exact lt_natF h
    ((repeat ((conv => whnf); refine And.intro (by first | exact trivial | exact rfl | omega | assumption | decide | exact pls_nD _ _ | exact keysOk_kv _ _ _) ?_)); (conv => whnf))
    refine And.intro (alike_nD F) (And.intro (alike_sortable F).2 ?_)
    rw [sortD_nD]
    (try simp only [List.set_cons_succ, List.set_cons_zero, freezeI, wipeE, backE, freeze, freezes, behind, List.getElem?_cons_succ, List.getElem?_cons_zero, Slot.val, Option.getD_some, ite_self])
    ((repeat ((conv => whnf); refine And.intro (by first | exact trivial | exact rfl | omega | assumption | decide | exact pls_nD _ _ | exact keysOk_kv _ _ _) ?_)); (conv => whnf))
    exact q (srt F) (fun x hx => hlt x ((srt_perm F).mem_iff.mp hx)) fun x hx => hre x ((srt_perm F).mem_iff.mp hx)
theorem fmod2 (t : Nat) : (t : Int).fmod 2 = ((t % 2 : Nat) : Int) := by
  rw [Int.fmod_eq_emod_of_nonneg _ (by decide)]; rfl
theorem ring_ok (Φ : Ctx) {b : Brd} (hB : NB b) {lv : List Nat} (hlv : lv.length = b.length) (hF : ∀ (b : Brd) (X : List Nat) (Q : D → Prop), b.length ≤ 1000 → Q (bD (inB b X)) → Φ.F 233 [bD b, .tup (nD X)] Q)
    (hR : ∀ (b : Brd) (start : Nat) (Q : D → Prop), NB b → start < b.length → (∀ X : List Nat, (∀ x ∈ X, x < b.length) → (∀ x ∈ X, x = start ∨ ∃ m, MP.Wlk (bE b) (fun s => lv.getD s 0) start x m) → Q (.tup (nD X))) → Φ.F 183 [bD b, .int (start : Int)] Q)
    {X : List Nat} (hX : ∀ x ∈ X, x < b.length) {odd : Nat} (no : ∀ s ∈ X, ∀ m, MP.Wlk (bE b) (fun s => lv.getD s 0) s s m → m % 2 ≠ odd) {Q : D → Prop} (q : Q (.bl false)) :
    wF Φ f_has_ring_of [bD b, .tup (nD lv), .tup (nD X), .int (odd : Int)] Q := by
  have hb := hB.small
  (refine wF_at [.sh _, .sh _, .sh _, .sh _, .un, .un, .un, .un] rfl (by decide) rfl ?_)
  ((repeat ((conv => whnf); refine And.intro (by first | exact trivial | exact rfl | omega | assumption | decide | exact pls_nD _ _ | exact keysOk_kv _ _ _) ?_)); (conv => whnf))
  refine foW_inv (I := fun i ρ => i ≤ X.length ∧ ∃ (s4 s5 s6 : Slot), ρ = [.sh (bD b), .sh (.tup (nD lv)), .sh (.tup (nD X)), .sh (.int (odd : Int)), s4, s5, s6, .un]) ?_ ?_ ?_
  · exact ⟨Nat.zero_le _, _, _, _, rfl⟩
  · rintro i d ρ K hd ⟨hi, s4, s5, s6, rfl⟩ hK
    have hlt : i < X.length := by
      have := (List.getElem?_eq_some_iff.mp hd).1
      simpa [nD] using this
    have ed : d = .int (X[i] : Int) := by
      have : (nD X)[i]? = some (.int (X[i] : Int)) := nD_get (by simp [hlt])
      rw [this] at hd
      exact (Option.some.inj hd).symm
    subst ed
    have hsx : X[i] ∈ X := List.getElem_mem hlt
    generalize X[i] = s at hsx ⊢
    have hsb := hX s hsx
    have gets : ∀ j, j < b.length → lv[j]? = some (lv.getD j 0) := fun j hj => by simp [List.getD, show j < lv.length by omega]
    ((repeat ((conv => whnf); refine And.intro (by first | exact trivial | exact rfl | omega | assumption | decide | exact pls_nD _ _ | exact keysOk_kv _ _ _) ?_)); (conv => whnf))
    refine idxL_nat (nD_get (gets s hsb)) ?_
    ((repeat ((conv => whnf); refine And.intro (by first | exact trivial | exact rfl | omega | assumption | decide | exact pls_nD _ _ | exact keysOk_kv _ _ _) ?_)); (conv => whnf))
    rw [fmod2]
    refine bif_by (fun h => ?_) (fun h => ?_)
    · have hodd := eqv_natT h
      ((repeat ((conv => whnf); refine And.intro (by first | exact trivial | exact rfl | omega | assumption | decide | exact pls_nD _ _ | exact keysOk_kv _ _ _) ?_)); (conv => whnf))
      refine lcW_on (fun (n : Nat) => D.int (n : Int)) (fun w => if decide (lv.getD w 0 ≤ lv.getD s 0) = true then some (.int (w : Int)) else none) X (fun w hw K hK => ?_) ?_
      · have hwb := hX w hw
        ((repeat ((conv => whnf); refine And.intro (by first | exact trivial | exact rfl | omega | assumption | decide | exact pls_nD _ _ | exact keysOk_kv _ _ _) ?_)); (conv => whnf))
        refine idxL_nat (nD_get (gets w hwb)) ?_
        ((repeat ((conv => whnf); refine And.intro (by first | exact trivial | exact rfl | omega | assumption | decide | exact pls_nD _ _ | exact keysOk_kv _ _ _) ?_)); (conv => whnf))
        refine idxL_nat (nD_get (gets s hsb)) ?_
        ((repeat ((conv => whnf); refine And.intro (by first | exact trivial | exact rfl | omega | assumption | decide | exact pls_nD _ _ | exact keysOk_kv _ _ _) ?_)); (conv => whnf))
        refine bif_by (fun h => ?_) (fun h => ?_)
        · have := lt_natF (not_T h)
          rw [if_pos (decide_eq_true (by omega))] at hK
          ((repeat ((conv => whnf); refine And.intro (by first | exact trivial | exact rfl | omega | assumption | decide | exact pls_nD _ _ | exact keysOk_kv _ _ _) ?_)); (conv => whnf))
          exact hK
        · have := lt_natT (not_F h)
          rw [if_neg (fun z => absurd (of_decide_eq_true z) (by omega))] at hK
          ((repeat ((conv => whnf); refine And.intro (by first | exact trivial | exact rfl | omega | assumption | decide | exact pls_nD _ _ | exact keysOk_kv _ _ _) ?_)); (conv => whnf))
          exact hK
      rw [filterMap_if]
      rw [show (X.filter (fun w => decide (lv.getD w 0 ≤ lv.getD s 0))).map (fun (w : Nat) => D.int (w : Int)) = nD (X.filter (fun w => decide (lv.getD w 0 ≤ lv.getD s 0))) from rfl]
      have hL : ∀ w ∈ X.filter (fun w => decide (lv.getD w 0 ≤ lv.getD s 0)), lv.getD w 0 ≤ lv.getD s 0 := fun w hw => of_decide_eq_true (List.mem_filter.mp hw).2
      generalize X.filter (fun w => decide (lv.getD w 0 ≤ lv.getD s 0)) = L at hL ⊢
      (try simp only [List.set_cons_succ, List.set_cons_zero, freezeI, wipeE, backE, freeze, freezes, behind, List.getElem?_cons_succ, List.getElem?_cons_zero, Slot.val, Option.getD_some, ite_self])
      ((repeat ((conv => whnf); refine And.intro (by first | exact trivial | exact rfl | omega | assumption | decide | exact pls_nD _ _ | exact keysOk_kv _ _ _) ?_)); (conv => whnf))
      refine hF b L _ hb ?_
      have lowNB := inB_NB hB L
      have lowlen := inB_len b L
      have hls : s < (inB b L).length := by omega
      (try simp only [List.set_cons_succ, List.set_cons_zero, freezeI, wipeE, backE, freeze, freezes, behind, List.getElem?_cons_succ, List.getElem?_cons_zero, Slot.val, Option.getD_some, ite_self])
      ((repeat ((conv => whnf); refine And.intro (by first | exact trivial | exact rfl | omega | assumption | decide | exact pls_nD _ _ | exact keysOk_kv _ _ _) ?_)); (conv => whnf))
      refine idxL_nat (d := spD (spot (inB b L) s)) (by rw [List.getElem?_map, spot_get hls]; rfl) ?_
      have edge : ∀ u v, bE (inB b L) u v → bE b u v ∧ lv.getD u 0 ≤ lv.getD s 0 := fun u v ⟨h1, h2⟩ => by
        rw [inB_len] at h1
        rw [inB_spot h1] at h2
        simp only at h2
        split at h2
        · rename_i hu
          exact ⟨⟨h1, (List.mem_filter.mp h2).1⟩, hL u hu⟩
        · exact nomatch h2
      ((repeat ((conv => whnf); refine And.intro (by first | exact trivial | exact rfl | omega | assumption | decide | exact pls_nD _ _ | exact keysOk_kv _ _ _) ?_)); (conv => whnf))
      refine foW_inv (I := fun i ρ => ∃ (s6 : Slot), ρ = [.sh (bD b), .sh (.tup (nD lv)), .sh (.tup (nD X)), .sh (.int (odd : Int)), .sh (.int (s : Int)), .sh (bD (inB b L)), s6, .un]) ⟨_, rfl⟩ ?_ ?_
      · rintro j d ρ K2 hd ⟨s6, rfl⟩ hK2
        obtain ⟨w, hw, ew⟩ : ∃ w ∈ (spot (inB b L) s).2, d = .int (w : Int) := by
          have := List.mem_of_getElem? hd
          obtain ⟨w, h1, h2⟩ := List.mem_map.mp this
          exact ⟨w, h1, h2.symm⟩
        subst ew
        ((repeat ((conv => whnf); refine And.intro (by first | exact trivial | exact rfl | omega | assumption | decide | exact pls_nD _ _ | exact keysOk_kv _ _ _) ?_)); (conv => whnf))
        refine hR (inB b L) w _ lowNB (lowNB.lt s hls w hw) fun R hRlt hRr => ?_
        (try simp only [List.set_cons_succ, List.set_cons_zero, freezeI, wipeE, backE, freeze, freezes, behind, List.getElem?_cons_succ, List.getElem?_cons_zero, Slot.val, Option.getD_some, ite_self])
        ((repeat ((conv => whnf); refine And.intro (by first | exact trivial | exact rfl | omega | assumption | decide | exact pls_nD _ _ | exact keysOk_kv _ _ _) ?_)); (conv => whnf))
        refine bif_by (fun h => ?_) (fun h => ?_)
        · have hsR : s ∈ R := of_decide_eq_true (any_nDT h)
          have walk : ∃ m, MP.Wlk (bE (inB b L)) (fun s => lv.getD s 0) s s m := by
            rcases hRr s hsR with e | ⟨m, w'⟩
            · exact ⟨_, .one ⟨hls, by rw [e] at hw ⊢; exact hw⟩⟩
            · exact ⟨_, .cons ⟨hls, hw⟩ w'⟩
          obtain ⟨m, w'⟩ := walk
          have h1 := w'.le (k := lv.getD s 0) fun u v e => (edge u v e).2
          have h2 := w'.ge
          have h3 := no s hsx m (w'.mono fun u v e => (edge u v e).1)
          have : m = lv.getD s 0 := Nat.le_antisymm h1 h2
          rw [this] at h3
          exact (h3 hodd).elim
        · ((repeat ((conv => whnf); refine And.intro (by first | exact trivial | exact rfl | omega | assumption | decide | exact pls_nD _ _ | exact keysOk_kv _ _ _) ?_)); (conv => whnf))
          exact hK2 _ ⟨_, rfl⟩
      · rintro ρ ⟨s6, rfl⟩
        ((repeat ((conv => whnf); refine And.intro (by first | exact trivial | exact rfl | omega | assumption | decide | exact pls_nD _ _ | exact keysOk_kv _ _ _) ?_)); (conv => whnf))
        exact hK _ ⟨hlt, _, _, _, rfl⟩
    · ((repeat ((conv => whnf); refine And.intro (by first | exact trivial | exact rfl | omega | assumption | decide | exact pls_nD _ _ | exact keysOk_kv _ _ _) ?_)); (conv => whnf))
      exact hK _ ⟨hlt, _, _, _, rfl⟩
  · rintro ρ ⟨hi, s4, s5, s6, rfl⟩
    ((repeat ((conv => whnf); refine And.intro (by first | exact trivial | exact rfl | omega | assumption | decide | exact pls_nD _ _ | exact keysOk_kv _ _ _) ?_)); (conv => whnf))
    exact q
end Wg
set_option Elab.async false
set_option linter.all false
set_option maxRecDepth 100000
set_option maxHeartbeats 1000000
namespace Wg
structure HasL (P : Prog) : Prop where
  h201 : P.fns 201 = some f_solved_levels
  h68 : P.fns 68 = some f_drawn_within
  h227 : P.fns 227 = some f_ways_within
  h233 : P.fns 233 = some f_within
  h148 : P.fns 148 = some f_level_wins
theorem all_sub {b : Brd} (hb : GB b) (lv : List Nat) : MP.Sub (gB b lv) (onL (List.range b.length)) := fun s hs => by
  have hs : s < b.length := List.mem_range.mp hs
  have h1 := (toB b hb).ne s hs
  obtain ⟨w, l, e⟩ := List.exists_cons_of_ne_nil h1
  have hw : w ∈ (spot b s).2 := by rw [show (spot b s).2 = w :: l from e]; exact List.mem_cons_self
  exact ⟨w, hw, List.mem_range.mpr ((toB b hb).lt s hs w hw)⟩
theorem all_solved {P : Prog} (hP : HasL P) {b : Brd} (hb : GB b) {lv : List Nat} (hlv : lv.length = b.length) {k n : Nat} (hk : ∀ x ∈ lv, x < k) {Q : D → Prop} (q : ∀ o c, Sol b lv (onL (List.range b.length)) o c → Q (.tup [.dct (kvE nI o), .dct (kvE nI c)])) :
    run P (n + k + 3) 201 [bD b, .tup (nD lv), .tup (nD (List.range b.length))] Q :=
  solved_ok hP.h201 hP.h68 hP.h227 hP.h233 hb.small hlv k n _ (fun s hs => List.mem_range.mp hs) (fun s hs => hk _ (by
    have hs : s < lv.length := by have := List.mem_range.mp hs; omega
    simp only [List.getD, List.getElem?_eq_getElem hs, Option.getD_some]
    exact List.getElem_mem hs)) (all_sub hb lv) Q q
theorem level_wins_ok {P : Prog} (hP : HasL P) {b : Brd} (hb : GB b) {lv : List Nat} (hlv : lv.length = b.length) {k n : Nat} (hk : ∀ x ∈ lv, x < k) {Q : D → Prop}
    (q : ∀ o c, Sol b lv (onL (List.range b.length)) o c → Q (.tup (nD ((List.range b.length).filter fun s => decide (getN o s = some (pN true)))))) :
    run P (n + k + 4) 148 [bD b, .tup (nD lv)] Q := by
  refine run_of hP.h148 (by decide) ?_
  have hl : (b.map spD).length = b.length := List.length_map ..
  have hs := hb.small
  (refine wF_at [.sh _, .sh _, .un, .un] rfl (by decide) rfl ?_)
  ((repeat ((conv => whnf); refine And.intro (by first | exact trivial | exact rfl | omega | assumption | decide | exact pls_nD _ _ | exact keysOk_kv _ _ _) ?_)); (conv => whnf))
  refine And.intro (by rw [hl]; unfold LB; omega) (And.intro (by omega) ?_)
  rw [hl, rangeD_nat]
  (try simp only [List.set_cons_succ, List.set_cons_zero, freezeI, wipeE, backE, freeze, freezes, behind, List.getElem?_cons_succ, List.getElem?_cons_zero, Slot.val, Option.getD_some, ite_self])
  ((repeat ((conv => whnf); refine And.intro (by first | exact trivial | exact rfl | omega | assumption | decide | exact pls_nD _ _ | exact keysOk_kv _ _ _) ?_)); (conv => whnf))
  refine all_solved hP hb hlv hk fun o c hS => ?_
  (try simp only [List.set_cons_succ, List.set_cons_zero, freezeI, wipeE, backE, freeze, freezes, behind, List.getElem?_cons_succ, List.getElem?_cons_zero, Slot.val, Option.getD_some, ite_self])
  ((repeat ((conv => whnf); refine And.intro (by first | exact trivial | exact rfl | omega | assumption | decide | exact pls_nD _ _ | exact keysOk_kv _ _ _) ?_)); (conv => whnf))
  refine And.intro (by rw [hl]; unfold LB; omega) (And.intro (by omega) ?_)
  rw [hl, rangeD_nat]
  refine lcW_on (fun (n : Nat) => D.int (n : Int)) (fun w => if decide (getN o w = some (pN true)) = true then some (.int (w : Int)) else none) (List.range b.length) (fun w hw K hK => ?_) ?_
  · obtain ⟨r, hr⟩ := hS.all w hw
    have hr : getN o w = some (pN r) := hr
    ((repeat ((conv => whnf); refine And.intro (by first | exact trivial | exact rfl | omega | assumption | decide | exact pls_nD _ _ | exact keysOk_kv _ _ _) ?_)); (conv => whnf))
    rw [look_kv, hr]
    ((repeat ((conv => whnf); refine And.intro (by first | exact trivial | exact rfl | omega | assumption | decide | exact pls_nD _ _ | exact keysOk_kv _ _ _) ?_)); (conv => whnf))
    refine bif_by (fun h => ?_) (fun h => ?_)
    · have : r = true := by cases r with | true => rfl | false => exact absurd h (by decide)
      rw [if_pos (decide_eq_true (by rw [hr, this]))] at hK
      ((repeat ((conv => whnf); refine And.intro (by first | exact trivial | exact rfl | omega | assumption | decide | exact pls_nD _ _ | exact keysOk_kv _ _ _) ?_)); (conv => whnf))
      exact hK
    · have : r ≠ true := by rintro rfl; exact absurd h (by decide)
      rw [if_neg (fun z => this (pN_inj (Option.some.inj (hr.symm.trans (of_decide_eq_true z)))))] at hK
      ((repeat ((conv => whnf); refine And.intro (by first | exact trivial | exact rfl | omega | assumption | decide | exact pls_nD _ _ | exact keysOk_kv _ _ _) ?_)); (conv => whnf))
      exact hK
  rw [filterMap_if]
  (try simp only [List.set_cons_succ, List.set_cons_zero, freezeI, wipeE, backE, freeze, freezes, behind, List.getElem?_cons_succ, List.getElem?_cons_zero, Slot.val, Option.getD_some, ite_self])
  ((repeat ((conv => whnf); refine And.intro (by first | exact trivial | exact rfl | omega | assumption | decide | exact pls_nD _ _ | exact keysOk_kv _ _ _) ?_)); (conv => whnf))
  exact q o c hS
/-- the way of a strategy -/
def stW (b : Brd) (o c : Dk Nat) (s : Nat) : Nat := if getN o s = some (pN (spot b s).1) ∧ (getN c s).isSome = true then (getN c s).getD 0 else (spot b s).2.headD 0
def stV (b : Brd) (o c : Dk Nat) (r : Bool) : List (Option Nat) := (List.range b.length).map fun s => if (spot b s).1 = r then some (stW b o c s) else none
theorem eqv_own (r x : Bool) : D.eqv (nI (pN r)) (.int (if x then 0 else 1)) = decide (r = x) := by cases r <;> cases x <;> rfl
theorem wSs_cons {Φ : Ctx} {s : St} {ss : Sts} {ρ : Env} {E : Ends} (h : wS Φ s ρ ⟨fun ρ1 => wSs Φ ss ρ1 E, E.rt, E.bk, E.ct⟩) : wSs Φ (.c s ss) ρ E := by unfold wSs; exact h
theorem wS_for {Φ : Ctx} {t : Tg} {it : It} {b : Sts} {ρ : Env} {E : Ends} (h : wI Φ it ρ fun items ρ1 => foW (fun x ρ E => wT Φ t (.sh x) ρ fun ρ' => wSs Φ b ρ' E) E items ρ1) : wS Φ (.for t it b) ρ E := by unfold wS; exact h
theorem level_strategies_ok {P : Prog} (hP : HasL P) (h147 : P.fns 147 = some f_level_strategies) {b : Brd} (hb : GB b) {lv : List Nat} (hlv : lv.length = b.length) {k n : Nat} (hk : ∀ x ∈ lv, x < k) {Q : D → Prop}
    (q : ∀ o c, Sol b lv (onL (List.range b.length)) o c → Q (.tup [vD (stV b o c true), vD (stV b o c false)])) :
    run P (n + k + 4) 147 [bD b, .tup (nD lv)] Q := by
  refine run_of h147 (by decide) ?_
  have hl : (b.map spD).length = b.length := List.length_map ..
  have hs := hb.small
  (refine wF_at [.sh _, .sh _, .un, .un, .un, .un, .un, .un, .un, .un, .un] rfl (by decide) rfl ?_)
  ((repeat ((conv => whnf); refine And.intro (by first | exact trivial | exact rfl | omega | assumption | decide | exact pls_nD _ _ | exact keysOk_kv _ _ _) ?_)); (conv => whnf))
  refine And.intro (by rw [hl]; unfold LB; omega) (And.intro (by omega) ?_)
  rw [hl, rangeD_nat]
  (try simp only [List.set_cons_succ, List.set_cons_zero, freezeI, wipeE, backE, freeze, freezes, behind, List.getElem?_cons_succ, List.getElem?_cons_zero, Slot.val, Option.getD_some, ite_self])
  ((repeat ((conv => whnf); refine And.intro (by first | exact trivial | exact rfl | omega | assumption | decide | exact pls_nD _ _ | exact keysOk_kv _ _ _) ?_)); (conv => whnf))
  refine all_solved hP hb hlv hk fun o c hS => ?_
  (try simp only [List.set_cons_succ, List.set_cons_zero, freezeI, wipeE, backE, freeze, freezes, behind, List.getElem?_cons_succ, List.getElem?_cons_zero, Slot.val, Option.getD_some, ite_self])
  ((conv => whnf); refine And.intro (by first | exact trivial | exact rfl | omega | assumption | decide | exact pls_nD _ _ | exact keysOk_kv _ _ _) ?_)
  refine (?_ : wSs _ _ _ _)
  refine wSs_cons ?_
  refine (?_ : wSs _ _ _ _)
  refine wSs_cons (wS_for ?_)
  refine (?_ : foW _ _ _ _)
  refine foW_inv (I := fun i ρ => ∃ (s5 s6 s7 s8 s9 s10 : Slot), ρ = [.sh (bD b), .sh (.tup (nD lv)), .sh (.dct (kvE nI o)), .sh (.dct (kvE nI c)), .ol ([vD (stV b o c true), vD (stV b o c false)].take i), s5, s6, s7, s8, s9, s10]) ?_ ?_ ?_
  · exact ⟨_, _, _, _, _, _, rfl⟩
  · rintro i d ρ K hd ⟨s5, s6, s7, s8, s9, s10, rfl⟩ hK
    obtain ⟨r, rfl, er, hi⟩ : ∃ r, d = pD r ∧ [vD (stV b o c true), vD (stV b o c false)].take (i + 1) = [vD (stV b o c true), vD (stV b o c false)].take i ++ [vD (stV b o c r)] ∧ i < 2 := by
      rcases i with _ | _ | i
      · exact ⟨true, (Option.some.inj hd).symm, rfl, by omega⟩
      · exact ⟨false, (Option.some.inj hd).symm, rfl, by omega⟩
      · exact nomatch hd
    have hfl : ([vD (stV b o c true), vD (stV b o c false)].take i).length ≤ 2 := by simp; omega
    generalize [vD (stV b o c true), vD (stV b o c false)].take i = fd at er hfl ⊢
    rw [er] at hK
    ((repeat ((conv => whnf); refine And.intro (by first | exact trivial | exact rfl | omega | assumption | decide | exact pls_nD _ _ | exact keysOk_kv _ _ _) ?_)); (conv => whnf))
    refine And.intro (by rw [hl]; unfold LB; omega) (And.intro (by omega) ?_)
    rw [hl, rangeD_nat]
    (try simp only [List.set_cons_succ, List.set_cons_zero, freezeI, wipeE, backE, freeze, freezes, behind, List.getElem?_cons_succ, List.getElem?_cons_zero, Slot.val, Option.getD_some, ite_self])
    refine foW_inv (I := fun j ρ => j ≤ b.length ∧ ∃ (s7 s8 s9 s10 : Slot), ρ = [.sh (bD b), .sh (.tup (nD lv)), .sh (.dct (kvE nI o)), .sh (.dct (kvE nI c)), .ol fd, .sh (pD r), .ol (((stV b o c r).take j).map oD), s7, s8, s9, s10]) ?_ ?_ ?_
    · exact ⟨Nat.zero_le _, _, _, _, _, rfl⟩
    · rintro j d ρ K2 hd ⟨hj, s7, s8, s9, s10, rfl⟩ hK2
      have hlt : j < b.length := by
        have := (List.getElem?_eq_some_iff.mp hd).1
        simpa [nD] using this
      have ed : d = .int (j : Int) := by
        have : (nD (List.range b.length))[j]? = some (.int (j : Int)) := nD_get (by simp [hlt])
        rw [this] at hd
        exact (Option.some.inj hd).symm
      subst ed
      have hsp := spot_get hlt
      obtain ⟨r', hr'⟩ := hS.all j (List.mem_range.mpr hlt)
      have hr' : getN o j = some (pN r') := hr'
      have lst : (((stV b o c r).take j).map oD).length < LB := by
        have : (stV b o c r).length = b.length := by simp [stV]
        simp [this, LB]
        omega
      have fin : ∀ (w : Nat) (s7 s8 s9 s10 : Slot), w = stW b o c j → K2 [.sh (bD b), .sh (.tup (nD lv)), .sh (.dct (kvE nI o)), .sh (.dct (kvE nI c)), .ol fd, .sh (pD r), .ol (((stV b o c r).take j).map oD ++ [oD (if (spot b j).1 = r then some w else none)]), s7, s8, s9, s10] := fun w s7 s8 s9 s10 e => by
        refine hK2 _ ⟨hlt, s7, s8, s9, s10, ?_⟩
        have e2 : (stV b o c r)[j]? = some (if (spot b j).1 = r then some w else none) := by
          unfold stV
          simp [hlt, e]
        rw [List.take_succ, e2]
        simp
      ((repeat ((conv => whnf); refine And.intro (by first | exact trivial | exact rfl | omega | assumption | decide | exact pls_nD _ _ | exact keysOk_kv _ _ _) ?_)); (conv => whnf))
      refine idxL_nat (d := spD (spot b j)) (by simp [hsp]) ?_
      ((repeat ((conv => whnf); refine And.intro (by first | exact trivial | exact rfl | omega | assumption | decide | exact pls_nD _ _ | exact keysOk_kv _ _ _) ?_)); (conv => whnf))
      rw [look_kv, hr']
      ((repeat ((conv => whnf); refine And.intro (by first | exact trivial | exact rfl | omega | assumption | decide | exact pls_nD _ _ | exact keysOk_kv _ _ _) ?_)); (conv => whnf))
      have hne : (spot b j).2 ≠ [] := (toB b hb).ne j hlt
      obtain ⟨w0, l0, e0⟩ := List.exists_cons_of_ne_nil hne
      refine bif_by (fun h => ?_) (fun h => ?_)
      · have hr2 : r' = (spot b j).1 := of_decide_eq_true ((eqv_own _ _).symm.trans h)
        rw [hr2] at hr'
        ((repeat ((conv => whnf); refine And.intro (by first | exact trivial | exact rfl | omega | assumption | decide | exact pls_nD _ _ | exact keysOk_kv _ _ _) ?_)); (conv => whnf))
        refine bif_by (fun h => ?_) (fun h => ?_)
        · have hc : (getN c j).isSome = true := by rw [← look_some nI c j]; exact h
          obtain ⟨w, ew⟩ := Option.isSome_iff_exists.mp hc
          have est : w = stW b o c j := by unfold stW; rw [if_pos ⟨hr', hc⟩, ew]; rfl
          ((repeat ((conv => whnf); refine And.intro (by first | exact trivial | exact rfl | omega | assumption | decide | exact pls_nD _ _ | exact keysOk_kv _ _ _) ?_)); (conv => whnf))
          rw [look_kv, ew]
          (try simp only [List.set_cons_succ, List.set_cons_zero, freezeI, wipeE, backE, freeze, freezes, behind, List.getElem?_cons_succ, List.getElem?_cons_zero, Slot.val, Option.getD_some, ite_self])
          ((repeat ((conv => whnf); refine And.intro (by first | exact trivial | exact rfl | omega | assumption | decide | exact pls_nD _ _ | exact keysOk_kv _ _ _) ?_)); (conv => whnf))
          refine bif_by (fun h => ?_) (fun h => ?_)
          · have ho : (spot b j).1 = r := of_decide_eq_true ((own_eqv _ _).symm.trans h)
            ((repeat ((conv => whnf); refine And.intro (by first | exact trivial | exact rfl | omega | assumption | decide | exact pls_nD _ _ | exact keysOk_kv _ _ _) ?_)); (conv => whnf))
            have hh := fun s7 s8 s9 s10 => fin w s7 s8 s9 s10 est
            simp only [if_pos ho] at hh
            exact hh _ _ _ _
          · have ho : ¬ (spot b j).1 = r := of_decide_eq_false ((own_eqv _ _).symm.trans h)
            ((repeat ((conv => whnf); refine And.intro (by first | exact trivial | exact rfl | omega | assumption | decide | exact pls_nD _ _ | exact keysOk_kv _ _ _) ?_)); (conv => whnf))
            have hh := fun s7 s8 s9 s10 => fin w s7 s8 s9 s10 est
            simp only [if_neg ho] at hh
            exact hh _ _ _ _
        · have hc : ¬ (getN c j).isSome = true := by rw [← look_some nI c j]; rw [h]; decide
          have est : w0 = stW b o c j := by unfold stW; rw [if_neg fun z => hc z.2, e0]; rfl
          ((repeat ((conv => whnf); refine And.intro (by first | exact trivial | exact rfl | omega | assumption | decide | exact pls_nD _ _ | exact keysOk_kv _ _ _) ?_)); (conv => whnf))
          refine idxL_nat (k := 0) (d := .int (w0 : Int)) (by rw [e0]; rfl) ?_
          (try simp only [List.set_cons_succ, List.set_cons_zero, freezeI, wipeE, backE, freeze, freezes, behind, List.getElem?_cons_succ, List.getElem?_cons_zero, Slot.val, Option.getD_some, ite_self])
          ((repeat ((conv => whnf); refine And.intro (by first | exact trivial | exact rfl | omega | assumption | decide | exact pls_nD _ _ | exact keysOk_kv _ _ _) ?_)); (conv => whnf))
          refine bif_by (fun h => ?_) (fun h => ?_)
          · have ho : (spot b j).1 = r := of_decide_eq_true ((own_eqv _ _).symm.trans h)
            ((repeat ((conv => whnf); refine And.intro (by first | exact trivial | exact rfl | omega | assumption | decide | exact pls_nD _ _ | exact keysOk_kv _ _ _) ?_)); (conv => whnf))
            have hh := fun s7 s8 s9 s10 => fin w0 s7 s8 s9 s10 est
            simp only [if_pos ho] at hh
            exact hh _ _ _ _
          · have ho : ¬ (spot b j).1 = r := of_decide_eq_false ((own_eqv _ _).symm.trans h)
            ((repeat ((conv => whnf); refine And.intro (by first | exact trivial | exact rfl | omega | assumption | decide | exact pls_nD _ _ | exact keysOk_kv _ _ _) ?_)); (conv => whnf))
            have hh := fun s7 s8 s9 s10 => fin w0 s7 s8 s9 s10 est
            simp only [if_neg ho] at hh
            exact hh _ _ _ _
      · have hr2 : ¬ r' = (spot b j).1 := of_decide_eq_false ((eqv_own _ _).symm.trans h)
        have est : w0 = stW b o c j := by unfold stW; rw [if_neg fun z => hr2 (pN_inj (Option.some.inj (hr'.symm.trans z.1))), e0]; rfl
        ((repeat ((conv => whnf); refine And.intro (by first | exact trivial | exact rfl | omega | assumption | decide | exact pls_nD _ _ | exact keysOk_kv _ _ _) ?_)); (conv => whnf))
        refine idxL_nat (k := 0) (d := .int (w0 : Int)) (by rw [e0]; rfl) ?_
        (try simp only [List.set_cons_succ, List.set_cons_zero, freezeI, wipeE, backE, freeze, freezes, behind, List.getElem?_cons_succ, List.getElem?_cons_zero, Slot.val, Option.getD_some, ite_self])
        ((repeat ((conv => whnf); refine And.intro (by first | exact trivial | exact rfl | omega | assumption | decide | exact pls_nD _ _ | exact keysOk_kv _ _ _) ?_)); (conv => whnf))
        refine bif_by (fun h => ?_) (fun h => ?_)
        · have ho : (spot b j).1 = r := of_decide_eq_true ((own_eqv _ _).symm.trans h)
          ((repeat ((conv => whnf); refine And.intro (by first | exact trivial | exact rfl | omega | assumption | decide | exact pls_nD _ _ | exact keysOk_kv _ _ _) ?_)); (conv => whnf))
          have hh := fun s7 s8 s9 s10 => fin w0 s7 s8 s9 s10 est
          simp only [if_pos ho] at hh
          exact hh _ _ _ _
        · have ho : ¬ (spot b j).1 = r := of_decide_eq_false ((own_eqv _ _).symm.trans h)
          ((repeat ((conv => whnf); refine And.intro (by first | exact trivial | exact rfl | omega | assumption | decide | exact pls_nD _ _ | exact keysOk_kv _ _ _) ?_)); (conv => whnf))
          have hh := fun s7 s8 s9 s10 => fin w0 s7 s8 s9 s10 est
          simp only [if_neg ho] at hh
          exact hh _ _ _ _
    · rintro ρ ⟨hj, s7, s8, s9, s10, rfl⟩
      rw [nD_len, List.length_range, List.take_of_length_le (by simp [stV])]
      ((repeat ((conv => whnf); refine And.intro (by first | exact trivial | exact rfl | omega | assumption | decide | exact pls_nD _ _ | exact keysOk_kv _ _ _) ?_)); (conv => whnf))
      refine And.intro (by unfold LB; omega) ?_
      (try simp only [List.set_cons_succ, List.set_cons_zero, freezeI, wipeE, backE, freeze, freezes, behind, List.getElem?_cons_succ, List.getElem?_cons_zero, Slot.val, Option.getD_some, ite_self])
      exact hK _ ⟨_, _, _, _, _, _, rfl⟩
  · rintro ρ ⟨s5, s6, s7, s8, s9, s10, rfl⟩
    ((repeat ((conv => whnf); refine And.intro (by first | exact trivial | exact rfl | omega | assumption | decide | exact pls_nD _ _ | exact keysOk_kv _ _ _) ?_)); (conv => whnf))
    exact q o c hS
end Wg
set_option Elab.async false
set_option linter.all false
namespace MP
section
variable {E E' E1 E2 : Nat → Nat → Prop} {lev lev' : Nat → Nat} {s t m n : Nat}
def Rch (E : Nat → Nat → Prop) (lev : Nat → Nat) (s : Nat) : Prop := s = 0 ∨ ∃ m, Wlk E lev 0 s m
/-- all rings that are reached from 0 have a greatest level of one kind -/
def Rings (E : Nat → Nat → Prop) (lev : Nat → Nat) (k : Nat) : Prop := ∀ s m, Rch E lev s → Wlk E lev s s m → m % 2 = k
theorem Wlk.relev (h : ∀ a b, E a b → lev a = lev' a) (w : Wlk E lev s t m) : Wlk E lev' s t m := by
  induction w with
  | one e => rw [h _ _ e]; exact .one e
  | cons e _ ih => rw [h _ _ e]; exact .cons e ih
theorem Wlk.less2 {d : Nat} (w : Wlk E (fun a => lev a + d) s t m) : ∃ m', m = m' + d ∧ Wlk E lev s t m' := by
  induction w with
  | one e => exact ⟨_, rfl, .one e⟩
  | cons e _ ih =>
    obtain ⟨m', rfl, w⟩ := ih
    exact ⟨_, by rw [Nat.add_max_add_right], .cons e w⟩
theorem Rch.mono (h : ∀ a b, E a b → E' a b) (r : Rch E lev s) : Rch E' lev s := r.imp id fun ⟨m, w⟩ => ⟨m, w.mono h⟩
theorem Rings.mono {k : Nat} (h : ∀ a b, E' a b → E a b) (r : Rings E lev k) : Rings E' lev k := fun s m hr w => r s m (hr.mono h) (w.mono h)
theorem Rings.relev {k : Nat} (h : ∀ a b, E a b → lev' a = lev a) (r : Rings E lev k) : Rings E lev' k := fun s m hr w => r s m (hr.imp id fun ⟨m, w⟩ => ⟨m, w.relev h⟩) (w.relev h)
theorem Rings.up {k : Nat} (r : Rings E lev k) : Rings E (fun a => lev a + 2) k := fun s m hr w => by
  obtain ⟨m', rfl, w'⟩ := w.less2
  have := r s m' (hr.imp id fun ⟨m, w⟩ => by
    obtain ⟨m', _, w'⟩ := w.less2
    exact ⟨m', w'⟩) w'
  omega
/-- a ring there is -/
theorem Rings.some {f : Nat → Nat} (hn : 0 < n) (hf : ∀ a, a < n → f a < n ∧ E a (f a)) {k : Nat} (h : Rings E lev k) : ∃ t m, Wlk E lev t t m ∧ m % 2 = k ∧ t < n := by
  obtain ⟨t, m, ht, hr, w⟩ := comes_round (E := E) (lev := lev) (n := n) (f := f) (s := 0) (fun a => a < n) hn hf fun a ha => ha
  exact ⟨t, m, w, h t m hr w, ht⟩
end
end MP
set_option Elab.async false
set_option linter.all false
set_option maxRecDepth 100000
set_option maxHeartbeats 1000000
namespace Wg
structure Tk where
  ins : Nat
  outs : Nat
  sts : List (Nat × List (List Nat))
def rowD (r : List Nat) : D := .tup (nD r)
def stD (p : Nat × List (List Nat)) : D := .tup [.int (p.1 : Int), .tup (p.2.map rowD)]
def tD (T : Tk) : D := .tup [.int (T.ins : Int), .int (T.outs : Int), .tup (T.sts.map stD)]
def Tk.many (T : Tk) : Nat := T.sts.length
def Tk.st (T : Tk) (k : Nat) : Nat × List (List Nat) := T.sts.getD k (0, [])
def Tk.lev (T : Tk) (k : Nat) : Nat := (T.st k).1
def Tk.row (T : Tk) (k c : Nat) : List Nat := (T.st k).2.getD c []
def Tk.cell (T : Tk) (k c a : Nat) : Nat := (T.row k c).getD a 0
structure GT (T : Tk) : Prop where
  i1 : 1 ≤ T.ins
  i3 : T.ins ≤ 3
  o1 : 1 ≤ T.outs
  o3 : T.outs ≤ 3
  s1 : 1 ≤ T.sts.length
  s5 : T.sts.length ≤ 5
  lv : ∀ p ∈ T.sts, p.1 ≤ 7
  tb : ∀ p ∈ T.sts, p.2.length = T.ins
  rw : ∀ p ∈ T.sts, ∀ r ∈ p.2, r.length = T.outs
  cl : ∀ p ∈ T.sts, ∀ r ∈ p.2, ∀ x ∈ r, x < T.sts.length
theorem GT.st_get {T : Tk} {k : Nat} (hk : k < T.sts.length) : T.sts[k]? = some (T.st k) := by unfold Tk.st; simp [List.getD, hk]
theorem GT.st_mem {T : Tk} {k : Nat} (hk : k < T.sts.length) : T.st k ∈ T.sts := List.mem_of_getElem? (GT.st_get hk)
theorem GT.row_get {T : Tk} (h : GT T) {k c : Nat} (hk : k < T.sts.length) (hc : c < T.ins) : (T.st k).2[c]? = some (T.row k c) := by
  have := h.tb _ (GT.st_mem hk)
  unfold Tk.row; simp [List.getD, show c < (T.st k).2.length by omega]
theorem GT.row_mem {T : Tk} (h : GT T) {k c : Nat} (hk : k < T.sts.length) (hc : c < T.ins) : T.row k c ∈ (T.st k).2 := List.mem_of_getElem? (h.row_get hk hc)
theorem GT.row_len {T : Tk} (h : GT T) {k c : Nat} (hk : k < T.sts.length) (hc : c < T.ins) : (T.row k c).length = T.outs := h.rw _ (GT.st_mem hk) _ (h.row_mem hk hc)
theorem GT.cell_get {T : Tk} (h : GT T) {k c a : Nat} (hk : k < T.sts.length) (hc : c < T.ins) (ha : a < T.outs) : (T.row k c)[a]? = some (T.cell k c a) := by
  have := h.row_len hk hc
  unfold Tk.cell; simp [List.getD, show a < (T.row k c).length by omega]
theorem GT.cell_lt {T : Tk} (h : GT T) {k c a : Nat} (hk : k < T.sts.length) (hc : c < T.ins) (ha : a < T.outs) : T.cell k c a < T.sts.length := h.cl _ (GT.st_mem hk) _ (h.row_mem hk hc) _ (List.mem_of_getElem? (h.cell_get hk hc ha))
theorem blsL_all {α : Type} {l : List α} {Q : List Bool → Prop} (q : ∀ bs : List Bool, bs.all id = true → Q bs) : blsL (l.map fun _ => D.bl true) Q := by
  have e : (l.map fun _ => D.bl true) = (l.map fun _ => true).map D.bl := by rw [List.map_map]; rfl
  rw [e]
  exact blsL_map (q _ (by simp))
structure HasN (P : Prog) : Prop where
  h104 : P.fns 104 = some f_is_whole
  h93 : P.fns 93 = some f_is_named
  h80 : P.fns 80 = some f_has_ring_of
  h183 : P.fns 183 = some f_reached_from
structure HasTB (P : Prog) : Prop extends HasN P where
  h147 : P.fns 147 = some f_level_strategies
  h217 : P.fns 217 = some f_talk_board
  h218 : P.fns 218 = some f_talk_paper
  h144 : P.fns 144 = some f_left_by_responder
  h143 : P.fns 143 = some f_left_by_refuser
  h98 : P.fns 98 = some f_is_responder
  h97 : P.fns 97 = some f_is_refuser
  h58 : P.fns 58 = some f_check_talk
theorem whole_ok {P : Prog} (hT : HasN P) {n : Nat} {i : Int} {Q : D → Prop} (q : Q (.bl true)) : run P (n + 1) 104 [.int i] Q := by
  refine run_of hT.h104 (by decide) ?_
  (refine wF_at [.sh _] rfl (by decide) rfl ?_)
  ((repeat ((conv => whnf); refine And.intro (by first | exact trivial | exact rfl | omega | assumption | decide | exact pls_nD _ _ | exact keysOk_kv _ _ _) ?_)); (conv => whnf))
  exact q
theorem not_le_F {a b : Nat} (h : (!D.lt (.int (b : Int)) (.int (a : Int))) = false) : b < a := lt_natT (not_F h)
def sset (l : List Nat) : List Nat := (sortSet (l.map fun (n : Nat) => (n : Int))).map Int.toNat
theorem sset_pos {l : List Nat} : ∀ y ∈ sortSet (l.map fun (n : Nat) => (n : Int)), ((y.toNat : Nat) : Int) = y := fun y hy => by
  rw [mem_sortSet] at hy
  obtain ⟨k, _, rfl⟩ := List.mem_map.mp hy
  omega
theorem mem_sset {l : List Nat} {x : Nat} : x ∈ sset l ↔ x ∈ l := by
  unfold sset
  rw [List.mem_map]
  constructor
  · rintro ⟨y, hy, rfl⟩
    rw [mem_sortSet] at hy
    obtain ⟨k, hk, rfl⟩ := List.mem_map.mp hy
    exact hk
  · intro h
    exact ⟨(x : Int), mem_sortSet.mpr (List.mem_map.mpr ⟨x, h, rfl⟩), by omega⟩
theorem sset_nd (l : List Nat) : (sset l).Nodup := by
  unfold sset
  rw [List.Nodup, List.pairwise_map]
  refine (sorted_sortSet _).imp_of_mem fun {a b} ha hb h => ?_
  have := sset_pos a ha
  have := sset_pos b hb
  omega
theorem sset_nD (l : List Nat) : (sortSet (l.map fun (n : Nat) => (n : Int))).map D.int = nD (sset l) := by
  unfold sset nD
  rw [List.map_map]
  refine List.map_congr_left fun y hy => ?_
  show D.int y = D.int ((y.toNat : Nat) : Int)
  rw [sset_pos y hy]
theorem sisL_set {l : List Nat} (hl : l.length < 64) {Q : List Int → Prop} (q : Q (sortSet (l.map fun (n : Nat) => (n : Int)))) : sisL (nD l) Q := by
  have e : nD l = (l.map fun (n : Nat) => (n : Int)).map D.int := by unfold nD; rw [List.map_map]; rfl
  rw [e]
  exact sisL_map (by simpa using hl) q
/-- parts of one length, one behind another -/
theorem flat_get {α β : Type} (f : α → List β) (n : Nat) : ∀ (l : List α) (k c : Nat), (∀ a ∈ l, (f a).length = n) → c < n → (l.flatMap f)[k * n + c]? = (l[k]?).bind fun a => (f a)[c]?
  | [], k, c, _, _ => by simp
  | a :: l, k, c, h, hc => by
    rw [List.flatMap_cons]
    have ha := h a List.mem_cons_self
    cases k with
    | zero =>
      rw [List.getElem?_append_left (by omega)]
      simp
    | succ k =>
      rw [List.getElem?_append_right (by rw [ha, Nat.succ_mul]; omega)]
      have e : (k + 1) * n + c - (f a).length = k * n + c := by rw [ha, Nat.succ_mul]; omega
      rw [e, flat_get f n l k c (fun b hb => h b (List.mem_cons_of_mem _ hb)) hc]
      simp
theorem flat_len {α β : Type} (f : α → List β) (n : Nat) : ∀ (l : List α), (∀ a ∈ l, (f a).length = n) → (l.flatMap f).length = l.length * n
  | [], _ => by simp
  | a :: l, h => by
    rw [List.flatMap_cons, List.length_append, h a List.mem_cons_self, flat_len f n l fun b hb => h b (List.mem_cons_of_mem _ hb), List.length_cons, Nat.succ_mul]
    omega
def outB (T : Tk) : Brd := (List.range T.sts.length).map fun k => (false, (List.range T.ins).map fun c => T.sts.length + k * T.ins + c)
def innB (l : List (Nat × List (List Nat))) : Brd := l.flatMap fun p => p.2.map fun r => (true, sset r)
def TB (T : Tk) : Brd := outB T ++ innB T.sts
def lvT (T : Tk) : List Nat := T.sts.map (·.1) ++ List.replicate (T.sts.length * T.ins) 0
theorem outB_len (T : Tk) : (outB T).length = T.sts.length := by simp [outB]
theorem innB_len {T : Tk} (h : GT T) : (innB T.sts).length = T.sts.length * T.ins := flat_len _ _ _ fun p hp => by rw [List.length_map]; exact h.tb p hp
theorem TB_len {T : Tk} (h : GT T) : (TB T).length = T.sts.length + T.sts.length * T.ins := by unfold TB; rw [List.length_append, outB_len, innB_len h]
theorem lvT_len {T : Tk} (h : GT T) : (lvT T).length = (TB T).length := by rw [TB_len h]; simp [lvT]
theorem TB_out {T : Tk} {k : Nat} (hk : k < T.sts.length) : spot (TB T) k = (false, (List.range T.ins).map fun c => T.sts.length + k * T.ins + c) := by
  unfold spot TB
  rw [List.getD, List.getElem?_append_left (by rw [outB_len]; exact hk)]
  unfold outB
  simp [hk]
theorem TB_inn {T : Tk} (h : GT T) {k c : Nat} (hk : k < T.sts.length) (hc : c < T.ins) : spot (TB T) (T.sts.length + k * T.ins + c) = (true, sset (T.row k c)) := by
  unfold spot TB
  rw [List.getD, List.getElem?_append_right (by rw [outB_len]; omega), outB_len]
  have e : T.sts.length + k * T.ins + c - T.sts.length = k * T.ins + c := by omega
  rw [e]
  unfold innB
  rw [flat_get (fun p : Nat × List (List Nat) => p.2.map fun r => ((true, sset r) : Bool × List Nat)) T.ins T.sts k c (fun p hp => by rw [List.length_map]; exact h.tb p hp) hc, GT.st_get hk]
  simp [h.row_get hk hc]
theorem TB_lev {T : Tk} {k : Nat} (hk : k < T.sts.length) : (lvT T).getD k 0 = T.lev k := by
  unfold lvT
  rw [List.getD, List.getElem?_append_left (by simpa using hk), List.getElem?_map, GT.st_get hk]
  rfl
theorem TB_lev0 {T : Tk} {k : Nat} (hk : T.sts.length ≤ k) : (lvT T).getD k 0 = 0 := by
  unfold lvT
  rw [List.getD, List.getElem?_append_right (by simpa using hk), List.getElem?_replicate]
  split <;> rfl
/-- each spot is a state, or a state and a call -/
theorem TB_spot {T : Tk} (h : GT T) {s : Nat} (hs : s < (TB T).length) : s < T.sts.length ∨ ∃ k c, k < T.sts.length ∧ c < T.ins ∧ s = T.sts.length + k * T.ins + c := by
  rw [TB_len h] at hs
  by_cases z : s < T.sts.length
  · exact .inl z
  · have i1 := h.i1
    refine .inr ⟨(s - T.sts.length) / T.ins, (s - T.sts.length) % T.ins, (Nat.div_lt_iff_lt_mul (by omega)).mpr (by omega), Nat.mod_lt _ (by omega), ?_⟩
    have := Nat.div_add_mod (s - T.sts.length) T.ins
    rw [Nat.mul_comm] at this
    omega
theorem call_lt {T : Tk} (h : GT T) {k c : Nat} (hk : k < T.sts.length) (hc : c < T.ins) : T.sts.length + k * T.ins + c < (TB T).length := by
  rw [TB_len h]
  have : (k + 1) * T.ins ≤ T.sts.length * T.ins := Nat.mul_le_mul_right _ hk
  rw [Nat.succ_mul] at this
  omega
theorem row_ne {T : Tk} (h : GT T) {k c : Nat} (hk : k < T.sts.length) (hc : c < T.ins) : sset (T.row k c) ≠ [] := fun z => by
  have h1 := h.row_len hk hc
  have h2 := h.o1
  obtain ⟨x, l, e⟩ := List.exists_cons_of_length_pos (show 0 < (T.row k c).length by omega)
  have : x ∈ sset (T.row k c) := mem_sset.mpr (by rw [e]; exact List.mem_cons_self)
  rw [z] at this
  exact nomatch this
theorem TB_gb {T : Tk} (h : GT T) : GB (TB T) := by
  have i3 := h.i3
  have s5 := h.s5
  have sp : ∀ p ∈ TB T, ∃ s, s < (TB T).length ∧ p = spot (TB T) s := fun p hp => by
    obtain ⟨s, hs, e⟩ := List.getElem_of_mem hp
    refine ⟨s, hs, ?_⟩
    unfold spot
    simp [List.getD, hs, e]
  refine ⟨?_, fun p hp => ?_, fun p hp w hw => ?_⟩
  · rw [TB_len h]
    have := Nat.mul_le_mul s5 i3
    omega
  · obtain ⟨s, hs, rfl⟩ := sp p hp
    rcases TB_spot h hs with z | ⟨k, c, hk, hc, rfl⟩
    · rw [TB_out z]
      have := h.i1
      intro e
      have := congrArg List.length e
      simp at this
      omega
    · rw [TB_inn h hk hc]
      exact row_ne h hk hc
  · obtain ⟨s, hs, rfl⟩ := sp p hp
    rcases TB_spot h hs with z | ⟨k, c, hk, hc, rfl⟩
    · rw [TB_out z] at hw
      obtain ⟨c, hc, rfl⟩ := List.mem_map.mp hw
      exact call_lt h z (List.mem_range.mp hc)
    · rw [TB_inn h hk hc] at hw
      have := h.cl _ (GT.st_mem hk) _ (h.row_mem hk hc) w (mem_sset.mp hw)
      rw [TB_len h]
      omega
end Wg
set_option Elab.async false
set_option linter.all false
set_option maxRecDepth 100000
set_option maxHeartbeats 1000000
namespace Wg
theorem talk_board_ok {P : Prog} (hT : HasTB P) {n : Nat} {T : Tk} (hG : GT T) {Q : D → Prop} (q : Q (.tup [bD (TB T), .tup (nD (lvT T))])) : run P (n + 1) 217 [tD T] Q := by
  refine run_of hT.h217 (by decide) ?_
  have hl : (T.sts.map stD).length = T.sts.length := List.length_map ..
  have i1 := hG.i1
  have i3 := hG.i3
  have o3 := hG.o3
  have s5 := hG.s5
  have si : T.sts.length * T.ins ≤ 15 := Nat.mul_le_mul s5 i3
  (refine wF_at [.sh _, .un, .un, .un, .un, .un, .un, .un, .un, .un, .un, .un] rfl (by decide) rfl ?_)
  ((repeat ((conv => whnf); refine And.intro (by first | exact trivial | exact rfl | omega | assumption | decide | exact pls_nD _ _ | exact keysOk_kv _ _ _) ?_)); (conv => whnf))
  rw [hl]
  refine And.intro (by unfold LB; omega) (And.intro (by omega) ?_)
  rw [rangeD_nat]
  refine foW_inv (I := fun i ρ => i ≤ T.sts.length ∧ ∃ (s7 : Slot), ρ = [.sh (tD T), .sh (.int (T.ins : Int)), .sh (.int (T.outs : Int)), .sh (.tup (T.sts.map stD)), .sh (.int (T.sts.length : Int)), .ol (((outB T).take i).map spD), .ol ((innB (T.sts.take i)).map spD), s7, .un, .un, .un, .un]) ?_ ?_ ?_
  · exact ⟨Nat.zero_le _, _, rfl⟩
  · rintro k d ρ K hd ⟨hk, s7, rfl⟩ hK
    have hlt : k < T.sts.length := by
      have := (List.getElem?_eq_some_iff.mp hd).1
      simpa [nD] using this
    have ed : d = .int (k : Int) := by
      have : (nD (List.range T.sts.length))[k]? = some (.int (k : Int)) := nD_get (by simp [hlt])
      rw [this] at hd
      exact (Option.some.inj hd).symm
    subst ed
    have hsp := GT.st_get hlt
    have et : T.sts.take (k + 1) = T.sts.take k ++ [T.st k] := by rw [List.take_succ, hsp]; rfl
    have eo : (outB T).take (k + 1) = (outB T).take k ++ [(false, (List.range T.ins).map fun c => T.sts.length + k * T.ins + c)] := by
      rw [List.take_succ]
      unfold outB
      simp [hlt]
    have l1 : (((outB T).take k).map spD).length ≤ 5 := by rw [List.length_map, List.length_take, outB_len]; omega
    have l2 : ((innB (T.sts.take k)).map spD).length ≤ 15 := by
      unfold innB
      rw [List.length_map, flat_len (fun p : Nat × List (List Nat) => p.2.map fun r => ((true, sset r) : Bool × List Nat)) T.ins _ (fun p hp => by rw [List.length_map]; exact hG.tb p (List.mem_of_mem_take hp)), List.length_take]
      have : min k T.sts.length * T.ins ≤ T.sts.length * T.ins := Nat.mul_le_mul_right _ (Nat.min_le_right _ _)
      omega
    ((repeat ((conv => whnf); refine And.intro (by first | exact trivial | exact rfl | omega | assumption | decide | exact pls_nD _ _ | exact keysOk_kv _ _ _) ?_)); (conv => whnf))
    refine And.intro (by unfold LB; omega) (And.intro (by omega) ?_)
    rw [rangeD_nat]
    refine lcW_onMap (fun (n : Nat) => D.int (n : Int)) (fun c => .int ((T.sts.length + k * T.ins + c : Nat) : Int)) (List.range T.ins) (fun c hc K hK => ?_) ?_
    · ((repeat ((conv => whnf); refine And.intro (by first | exact trivial | exact rfl | omega | assumption | decide | exact pls_nD _ _ | exact keysOk_kv _ _ _) ?_)); (conv => whnf))
      refine And.intro (.inl (.inl (by omega))) ?_
      ((repeat ((conv => whnf); refine And.intro (by first | exact trivial | exact rfl | omega | assumption | decide | exact pls_nD _ _ | exact keysOk_kv _ _ _) ?_)); (conv => whnf))
      have e : ((T.sts.length + k * T.ins + c : Nat) : Int) = (T.sts.length : Int) + (k : Int) * (T.ins : Int) + (c : Int) := by simp
      rw [e] at hK
      exact hK
    rw [show (List.range T.ins).map (fun c => D.int ((T.sts.length + k * T.ins + c : Nat) : Int)) = nD ((List.range T.ins).map fun c => T.sts.length + k * T.ins + c) by unfold nD; rw [List.map_map]; rfl]
    (try simp only [List.set_cons_succ, List.set_cons_zero, freezeI, wipeE, backE, freeze, freezes, behind, List.getElem?_cons_succ, List.getElem?_cons_zero, Slot.val, Option.getD_some, ite_self])
    ((repeat ((conv => whnf); refine And.intro (by first | exact trivial | exact rfl | omega | assumption | decide | exact pls_nD _ _ | exact keysOk_kv _ _ _) ?_)); (conv => whnf))
    refine And.intro (by unfold LB; omega) ?_
    (try simp only [List.set_cons_succ, List.set_cons_zero, freezeI, wipeE, backE, freeze, freezes, behind, List.getElem?_cons_succ, List.getElem?_cons_zero, Slot.val, Option.getD_some, ite_self])
    ((repeat ((conv => whnf); refine And.intro (by first | exact trivial | exact rfl | omega | assumption | decide | exact pls_nD _ _ | exact keysOk_kv _ _ _) ?_)); (conv => whnf))
    refine idxL_nat (d := stD (T.st k)) (by simp [hsp]) ?_
    ((repeat ((conv => whnf); refine And.intro (by first | exact trivial | exact rfl | omega | assumption | decide | exact pls_nD _ _ | exact keysOk_kv _ _ _) ?_)); (conv => whnf))
    refine lcW_onMap rowD (fun r => spD (true, sset r)) (T.st k).2 (fun r hr K hK => ?_) ?_
    · have hrl := hG.rw _ (GT.st_mem hlt) r hr
      ((repeat ((conv => whnf); refine And.intro (by first | exact trivial | exact rfl | omega | assumption | decide | exact pls_nD _ _ | exact keysOk_kv _ _ _) ?_)); (conv => whnf))
      refine sisL_set (by omega) ?_
      (try simp only [List.set_cons_succ, List.set_cons_zero, freezeI, wipeE, backE, freeze, freezes, behind, List.getElem?_cons_succ, List.getElem?_cons_zero, Slot.val, Option.getD_some, ite_self])
      rw [sset_nD]
      ((repeat ((conv => whnf); refine And.intro (by first | exact trivial | exact rfl | omega | assumption | decide | exact pls_nD _ _ | exact keysOk_kv _ _ _) ?_)); (conv => whnf))
      exact hK
    (try simp only [List.set_cons_succ, List.set_cons_zero, freezeI, wipeE, backE, freeze, freezes, behind, List.getElem?_cons_succ, List.getElem?_cons_zero, Slot.val, Option.getD_some, ite_self])
    have htl := hG.tb _ (GT.st_mem hlt)
    ((repeat ((conv => whnf); refine And.intro (by first | exact trivial | exact rfl | omega | assumption | decide | exact pls_nD _ _ | exact keysOk_kv _ _ _) ?_)); (conv => whnf))
    refine And.intro (by simp only [List.length_map] at l1 l2 ⊢; unfold LB; omega) ?_
    (try simp only [List.set_cons_succ, List.set_cons_zero, freezeI, wipeE, backE, freeze, freezes, behind, List.getElem?_cons_succ, List.getElem?_cons_zero, Slot.val, Option.getD_some, ite_self])
    refine hK _ ⟨hlt, .sh (.int (k : Int)), ?_⟩
    rw [et, eo]
    unfold innB
    simp [List.flatMap_append]
    rfl
  · rintro ρ ⟨hk, s7, rfl⟩
    rw [nD_len, List.length_range, List.take_of_length_le (by rw [outB_len]; omega), List.take_of_length_le (by omega)]
    ((repeat ((conv => whnf); refine And.intro (by first | exact trivial | exact rfl | omega | assumption | decide | exact pls_nD _ _ | exact keysOk_kv _ _ _) ?_)); (conv => whnf))
    refine lcW_onMap stD (fun p => .int (p.1 : Nat)) T.sts (fun p hp K hK => ?_) ?_
    · ((repeat ((conv => whnf); refine And.intro (by first | exact trivial | exact rfl | omega | assumption | decide | exact pls_nD _ _ | exact keysOk_kv _ _ _) ?_)); (conv => whnf))
      exact hK
    (try simp only [List.set_cons_succ, List.set_cons_zero, freezeI, wipeE, backE, freeze, freezes, behind, List.getElem?_cons_succ, List.getElem?_cons_zero, Slot.val, Option.getD_some, ite_self])
    ((repeat ((conv => whnf); refine And.intro (by first | exact trivial | exact rfl | omega | assumption | decide | exact pls_nD _ _ | exact keysOk_kv _ _ _) ?_)); (conv => whnf))
    refine And.intro (.inl (.inl (by omega))) ?_
    rw [← Int.natCast_mul]
    ((repeat ((conv => whnf); refine And.intro (by first | exact trivial | exact rfl | omega | assumption | decide | exact pls_nD _ _ | exact keysOk_kv _ _ _) ?_)); (conv => whnf))
    have e0 : (List.replicate ((T.sts.length * T.ins : Nat) : Int).toNat [D.int 0]).flatten = nD (List.replicate (T.sts.length * T.ins) 0) := by
      rw [Int.toNat_natCast]
      simp [nD]
    (try simp only [List.set_cons_succ, List.set_cons_zero, freezeI, wipeE, backE, freeze, freezes, behind, List.getElem?_cons_succ, List.getElem?_cons_zero, Slot.val, Option.getD_some, ite_self])
    rw [e0]
    have e1 : T.sts.map (fun p => D.int (p.1 : Nat)) ++ nD (List.replicate (T.sts.length * T.ins) 0) = nD (lvT T) := by
      unfold lvT nD
      rw [List.map_append, List.map_map]
      rfl
    refine And.intro (by rw [List.length_map, nD_len, List.length_replicate]; unfold LB; omega) ?_
    rw [e1]
    (try simp only [List.set_cons_succ, List.set_cons_zero, freezeI, wipeE, backE, freeze, freezes, behind, List.getElem?_cons_succ, List.getElem?_cons_zero, Slot.val, Option.getD_some, ite_self])
    ((repeat ((conv => whnf); refine And.intro (by first | exact trivial | exact rfl | omega | assumption | decide | exact pls_nD _ _ | exact keysOk_kv _ _ _) ?_)); (conv => whnf))
    have e2 : (outB T).map spD ++ (innB T.sts).map spD = (TB T).map spD := by unfold TB; rw [List.map_append]
    refine And.intro (by rw [List.length_map, List.length_map, outB_len, innB_len hG]; unfold LB; omega) ?_
    rw [e2]
    (try simp only [List.set_cons_succ, List.set_cons_zero, freezeI, wipeE, backE, freeze, freezes, behind, List.getElem?_cons_succ, List.getElem?_cons_zero, Slot.val, Option.getD_some, ite_self])
    ((repeat ((conv => whnf); refine And.intro (by first | exact trivial | exact rfl | omega | assumption | decide | exact pls_nD _ _ | exact keysOk_kv _ _ _) ?_)); (conv => whnf))
    exact q
end Wg
set_option Elab.async false
set_option linter.all false
set_option maxRecDepth 100000
set_option maxHeartbeats 1000000
namespace MP
section
variable {g : G} {X W : St} {p : Bool} {σ : Sg} {E : Nat → Nat → Prop} {lev : Nat → Nat} {s t m : Nat}
theorem Wlk.twice (hW : Win g X p W σ) (h : ∀ a b, E a b → W a → ∃ j, Ed g p X W σ a j ∧ Ed g p X W σ j b ∧ g.lev j = 0 ∧ g.lev a = lev a) (w : Wlk E lev s t m) (hs : W s) : Wlk (Ed g p X W σ) g.lev s t m ∧ W t := by
  induction w with
  | one e =>
    obtain ⟨j, e1, e2, h0, hl⟩ := h _ _ e hs
    have w := Wlk.cons e1 (Wlk.one (lev := g.lev) e2)
    rw [h0, hl, Nat.max_eq_left (Nat.zero_le _)] at w
    exact ⟨w, Ed.win hW e2⟩
  | cons e w ih =>
    rename_i a c d m
    obtain ⟨j, e1, e2, h0, hl⟩ := h _ _ e hs
    obtain ⟨w2, hd⟩ := ih (Ed.win hW e2)
    have w := Wlk.cons e1 (Wlk.cons e2 w2)
    rw [h0, hl, Nat.max_eq_right (Nat.zero_le m)] at w
    exact ⟨w, hd⟩
theorem Win.rings (hW : Win g X p W σ) (h : ∀ a b, E a b → W a → ∃ j, Ed g p X W σ a j ∧ Ed g p X W σ j b ∧ g.lev j = 0 ∧ g.lev a = lev a) (h0 : W 0) : Rings E lev (if p then 0 else 1) := fun s m hr w => by
  have hs : W s := by
    rcases hr with rfl | ⟨m', w'⟩
    · exact h0
    · exact (w'.twice hW h h0).2
  have := hW.ring s m (w.twice hW h hs).1
  rcases Nat.mod_two_eq_zero_or_one m with z | z
  · rw [z] at this ⊢
    rw [← this]; rfl
  · rw [z] at this ⊢
    rw [← this]; rfl
end
end MP
namespace Wg
def respE (T : Tk) (R : List (List Nat)) (a b : Nat) : Prop := a < T.sts.length ∧ ∃ c, c < T.ins ∧ b = T.cell a c ((R.getD a []).getD c 0)
def refE (T : Tk) (C : List Nat) (a b : Nat) : Prop := a < T.sts.length ∧ ∃ x, x < T.outs ∧ b = T.cell a (C.getD a 0) x
structure RespOk (T : Tk) (R : List (List Nat)) : Prop where
  len : R.length = T.sts.length
  row : ∀ r ∈ R, r.length = T.ins
  lt : ∀ r ∈ R, ∀ x ∈ r, x < T.outs
  rings : MP.Rings (respE T R) T.lev 0
structure RefOk (T : Tk) (C : List Nat) : Prop where
  len : C.length = T.sts.length
  lt : ∀ x ∈ C, x < T.ins
  rings : MP.Rings (refE T C) T.lev 1
section
variable {T : Tk} {o c : Dk Nat}
theorem stW_win {b : Brd} {lv : List Nat} (hS : Sol b lv (onL (List.range b.length)) o c) {s : Nat} (h : wonBy o (spot b s).1 s) : getN c s = some (stW b o c s) := by
  obtain ⟨w, e, _⟩ := (hS.win _).mine s h rfl
  unfold stW
  have h : getN o s = some (pN (spot b s).1) := h
  rw [if_pos ⟨h, by rw [e]; rfl⟩, e]; rfl
theorem stW_mem {b : Brd} (hb : GB b) {lv : List Nat} (hS : Sol b lv (onL (List.range b.length)) o c) {s : Nat} (hs : s < b.length) : stW b o c s ∈ (spot b s).2 := by
  unfold stW
  by_cases z : getN o s = some (pN (spot b s).1) ∧ (getN c s).isSome = true
  · rw [if_pos z]
    obtain ⟨w, e, h1, _⟩ := (hS.win _).mine s z.1 rfl
    have e : getN c s = some w := e
    rw [e]; exact h1
  · rw [if_neg z]
    have := (toB b hb).ne s hs
    obtain ⟨w, l, e⟩ := List.exists_cons_of_ne_nil this
    have e : (spot b s).2 = w :: l := e
    rw [e]; exact List.mem_cons_self
theorem resp_rings (hG : GT T) (hS : Sol (TB T) (lvT T) (onL (List.range (TB T).length)) o c) (h0 : wonBy o true 0) {R : List (List Nat)} (hR : ∀ k cc, k < T.sts.length → cc < T.ins → T.cell k cc ((R.getD k []).getD cc 0) = stW (TB T) o c (T.sts.length + k * T.ins + cc)) :
    MP.Rings (respE T R) T.lev 0 := by
  refine MP.Win.rings (hS.win true) (fun a b ⟨ha, cc, hcc, e⟩ hw => ?_) h0
  have hj := call_lt hG ha hcc
  have sj := TB_inn hG ha hcc
  have sa := TB_out ha
  refine ⟨T.sts.length + a * T.ins + cc, ?_⟩
  have hmem : T.sts.length + a * T.ins + cc ∈ (spot (TB T) a).2 := by rw [sa]; exact List.mem_map.mpr ⟨cc, List.mem_range.mpr hcc, rfl⟩
  have e1 : MP.Ed (gB (TB T) (lvT T)) true (onL (List.range (TB T).length)) (wonBy o true) (getN c) a (T.sts.length + a * T.ins + cc) := ⟨hw, hmem, List.mem_range.mpr hj, fun z => by
    have z : (spot (TB T) a).1 = true := z
    rw [sa] at z
    exact nomatch z⟩
  have hwj := MP.Ed.win (hS.win true) e1
  have own : (spot (TB T) (T.sts.length + a * T.ins + cc)).1 = true := by rw [sj]
  have hst := stW_win hS (s := T.sts.length + a * T.ins + cc) (by rw [own]; exact hwj)
  have hm := stW_mem (TB_gb hG) hS hj
  rw [← hR a cc ha hcc, ← e] at hst hm
  refine ⟨e1, ⟨hwj, hm, List.mem_range.mpr ((toB _ (TB_gb hG)).lt _ hj _ hm), fun _ => hst⟩, TB_lev0 (by omega), TB_lev ha⟩
theorem ref_rings (hG : GT T) (hS : Sol (TB T) (lvT T) (onL (List.range (TB T).length)) o c) (h0 : wonBy o false 0) {C : List Nat} (hC : ∀ k, k < T.sts.length → C.getD k 0 < T.ins ∧ stW (TB T) o c k = T.sts.length + k * T.ins + C.getD k 0) :
    MP.Rings (refE T C) T.lev 1 := by
  refine MP.Win.rings (hS.win false) (fun a b ⟨ha, x, hx, e⟩ hw => ?_) h0
  obtain ⟨hcc, ec⟩ := hC a ha
  generalize C.getD a 0 = cc at hcc ec e
  have hj := call_lt hG ha hcc
  have sj := TB_inn hG ha hcc
  have sa := TB_out ha
  have own : (spot (TB T) a).1 = false := by rw [sa]
  have hst := stW_win hS (s := a) (by rw [own]; exact hw)
  have hm := stW_mem (TB_gb hG) hS (s := a) (by rw [TB_len hG]; omega)
  rw [ec] at hst hm
  refine ⟨T.sts.length + a * T.ins + cc, ?_⟩
  have e1 : MP.Ed (gB (TB T) (lvT T)) false (onL (List.range (TB T).length)) (wonBy o false) (getN c) a (T.sts.length + a * T.ins + cc) := ⟨hw, hm, List.mem_range.mpr hj, fun _ => hst⟩
  have hwj := MP.Ed.win (hS.win false) e1
  have hb : b ∈ (spot (TB T) (T.sts.length + a * T.ins + cc)).2 := by
    rw [sj, e]
    exact mem_sset.mpr (List.mem_of_getElem? (hG.cell_get ha hcc hx))
  refine ⟨e1, ⟨hwj, hb, List.mem_range.mpr ((toB _ (TB_gb hG)).lt _ hj _ hb), fun z => ?_⟩, TB_lev0 (by omega), TB_lev ha⟩
  have z : (spot (TB T) (T.sts.length + a * T.ins + cc)).1 = false := z
  rw [sj] at z
  exact nomatch z
/-- the same spot by both solutions -/
theorem Sol.same {b : Brd} {lv : List Nat} (hb : GB b) {o' c' : Dk Nat} (hS : Sol b lv (onL (List.range b.length)) o c) (hS' : Sol b lv (onL (List.range b.length)) o' c') {s : Nat} {r : Bool} (h : wonBy o r s) : wonBy o' r s := by
  obtain ⟨r', hr'⟩ := hS'.all s (hS.domo s h.some)
  by_cases e : r' = r
  · rw [← e]; exact hr'
  · exact (MP.Win.disj (n := b.length) (fun s hs => List.mem_range.mp hs) (all_sub hb lv) e (hS.win r) (hS'.win r') h hr').elim
end
end Wg
set_option Elab.async false
set_option linter.all false
set_option maxRecDepth 100000
set_option maxHeartbeats 1000000
namespace Wg
def refuserW : List Nat := [114, 101, 102, 117, 115, 101, 114]
def responderW : List Nat := [114, 101, 115, 112, 111, 110, 100, 101, 114]
def ixN (l : List Nat) (x : Nat) : Nat := ((nD l).findIdx? (fun z => D.eqv z (.int (x : Int)))).getD 0
theorem ixN_of {l : List Nat} {x : Nat} (h : x ∈ l) : (nD l).findIdx? (fun z => D.eqv z (.int (x : Int))) = some (ixN l x) ∧ l[ixN l x]? = some x := by
  have hs : ((nD l).findIdx? (fun z => D.eqv z (.int (x : Int)))).isSome = true := by
    rw [List.findIdx?_isSome, any_nD]
    exact decide_eq_true h
  obtain ⟨k, hk⟩ := Option.isSome_iff_exists.mp hs
  have e : ixN l x = k := by unfold ixN; rw [hk]; rfl
  rw [e]
  refine ⟨hk, ?_⟩
  rw [List.findIdx?_eq_some_iff_getElem] at hk
  obtain ⟨h1, h2, _⟩ := hk
  have h3 : k < l.length := by simpa [nD] using h1
  have : D.eqv (.int (l[k] : Int)) (.int (x : Int)) = true := by simpa [nD] using h2
  rw [List.getElem?_eq_getElem h3, eqv_natT this]
theorem fmod_call {m k i c : Nat} (hc : c < i) : (((m + k * i + c : Nat) : Int) - (m : Int)).fmod (i : Int) = (c : Int) := by
  have e : ((m + k * i + c : Nat) : Int) - (m : Int) = ((k * i + c : Nat) : Int) := by omega
  rw [e, Int.fmod_eq_emod_of_nonneg _ (by omega), ← Int.natCast_emod, Nat.mul_comm, Nat.mul_add_mod, Nat.mod_eq_of_lt hc]
/-- the responder's answers are those of won spots -/
def RespBy (T : Tk) (R : List (List Nat)) : Prop := ∃ o c, Sol (TB T) (lvT T) (onL (List.range (TB T).length)) o c ∧ wonBy o true 0 ∧ ∀ k cc, k < T.sts.length → cc < T.ins → T.cell k cc ((R.getD k []).getD cc 0) = stW (TB T) o c (T.sts.length + k * T.ins + cc)
def RefBy (T : Tk) (C : List Nat) : Prop := ∃ o c, Sol (TB T) (lvT T) (onL (List.range (TB T).length)) o c ∧ wonBy o false 0 ∧ ∀ k, k < T.sts.length → C.getD k 0 < T.ins ∧ stW (TB T) o c k = T.sts.length + k * T.ins + C.getD k 0
theorem talk_paper_ok2 {P : Prog} (hL : HasL P) (hT : HasTB P) {n : Nat} {T : Tk} (hG : GT T) {Q : D → Prop} (q1 : ∀ C, RefOk T C → RefBy T C → Q (.tup [.str refuserW, .tup (nD C)])) (q2 : ∀ R, RespOk T R → RespBy T R → Q (.tup [.str responderW, .tup (R.map rowD)])) :
    run P (n + 13) 218 [tD T] Q := by
  refine run_of hT.h218 (by decide) ?_
  have hl : (T.sts.map stD).length = T.sts.length := List.length_map ..
  have i1 := hG.i1
  have i3 := hG.i3
  have o3 := hG.o3
  have s1 := hG.s1
  have s5 := hG.s5
  have si : T.sts.length * T.ins ≤ 15 := Nat.mul_le_mul s5 i3
  have hb := TB_gb hG
  have hlv : ∀ x ∈ lvT T, x < 8 := fun x hx => by
    unfold lvT at hx
    rcases List.mem_append.mp hx with z | z
    · obtain ⟨p, hp, rfl⟩ := List.mem_map.mp z
      have := hG.lv p hp
      omega
    · have := List.eq_of_mem_replicate z
      omega
  have hlvl := lvT_len hG
  (refine wF_at [.sh _, .un, .un, .un, .un, .un, .un, .un, .un, .un, .un, .un, .un] rfl (by decide) rfl ?_)
  ((repeat ((conv => whnf); refine And.intro (by first | exact trivial | exact rfl | omega | assumption | decide | exact pls_nD _ _ | exact keysOk_kv _ _ _) ?_)); (conv => whnf))
  rw [hl]
  refine talk_board_ok hT (n := n + 11) hG ?_
  (try simp only [List.set_cons_succ, List.set_cons_zero, freezeI, wipeE, backE, freeze, freezes, behind, List.getElem?_cons_succ, List.getElem?_cons_zero, Slot.val, Option.getD_some, ite_self])
  ((repeat ((conv => whnf); refine And.intro (by first | exact trivial | exact rfl | omega | assumption | decide | exact pls_nD _ _ | exact keysOk_kv _ _ _) ?_)); (conv => whnf))
  refine level_strategies_ok hL hT.h147 (n := n) hb hlvl hlv fun o c hS => ?_
  (try simp only [List.set_cons_succ, List.set_cons_zero, freezeI, wipeE, backE, freeze, freezes, behind, List.getElem?_cons_succ, List.getElem?_cons_zero, Slot.val, Option.getD_some, ite_self])
  ((repeat ((conv => whnf); refine And.intro (by first | exact trivial | exact rfl | omega | assumption | decide | exact pls_nD _ _ | exact keysOk_kv _ _ _) ?_)); (conv => whnf))
  refine level_wins_ok hL (n := n) hb hlvl hlv fun o2 c2 hS2 => ?_
  (try simp only [List.set_cons_succ, List.set_cons_zero, freezeI, wipeE, backE, freeze, freezes, behind, List.getElem?_cons_succ, List.getElem?_cons_zero, Slot.val, Option.getD_some, ite_self])
  ((repeat ((conv => whnf); refine And.intro (by first | exact trivial | exact rfl | omega | assumption | decide | exact pls_nD _ _ | exact keysOk_kv _ _ _) ?_)); (conv => whnf))
  refine bif_by (fun h => ?_) (fun h => ?_)
  · have h := nany_nDT (i := 0) h
    have h0 : wonBy o false 0 := by
      obtain ⟨r, hr⟩ := hS.all 0 (List.mem_range.mpr (by rw [TB_len hG]; omega))
      cases r with
      | false => exact hr
      | true =>
        have : 0 ∈ (List.range (TB T).length).filter (fun s => decide (getN o2 s = some (pN true))) := List.mem_filter.mpr ⟨List.mem_range.mpr (by rw [TB_len hG]; omega), decide_eq_true (Sol.same hb hS hS2 hr)⟩
        simp [this] at h
    have hway : ∀ k, k < T.sts.length → ∃ cc, cc < T.ins ∧ stW (TB T) o c k = T.sts.length + k * T.ins + cc := fun k hk => by
      have := stW_mem hb hS (s := k) (by rw [TB_len hG]; omega)
      rw [TB_out hk] at this
      obtain ⟨cc, h1, h2⟩ := List.mem_map.mp this
      exact ⟨cc, List.mem_range.mp h1, h2.symm⟩
    ((repeat ((conv => whnf); refine And.intro (by first | exact trivial | exact rfl | omega | assumption | decide | exact pls_nD _ _ | exact keysOk_kv _ _ _) ?_)); (conv => whnf))
    refine And.intro (by unfold LB; omega) (And.intro (by omega) ?_)
    rw [rangeD_nat]
    refine lcW_onMap (fun (n : Nat) => D.int (n : Int)) (fun k => .int ((stW (TB T) o c k - (T.sts.length + k * T.ins) : Nat) : Int)) (List.range T.sts.length) (fun k hk K hK => ?_) ?_
    · have hk := List.mem_range.mp hk
      obtain ⟨cc, hcc, ew⟩ := hway k hk
      ((repeat ((conv => whnf); refine And.intro (by first | exact trivial | exact rfl | omega | assumption | decide | exact pls_nD _ _ | exact keysOk_kv _ _ _) ?_)); (conv => whnf))
      refine idxL_nat (d := .int ((stW (TB T) o c k : Nat) : Int)) ?_ ?_
      · unfold stV
        rw [List.getElem?_map, List.getElem?_map, List.getElem?_range (by rw [TB_len hG]; omega)]
        simp only [Option.map_some, TB_out hk, if_true]
        rfl
      · ((repeat ((conv => whnf); refine And.intro (by first | exact trivial | exact rfl | omega | assumption | decide | exact pls_nD _ _ | exact keysOk_kv _ _ _) ?_)); (conv => whnf))
        rw [ew] at hK ⊢
        rw [fmod_call hcc]
        have : T.sts.length + k * T.ins + cc - (T.sts.length + k * T.ins) = cc := by omega
        rw [this] at hK
        exact hK
    rw [show (List.range T.sts.length).map (fun k => D.int ((stW (TB T) o c k - (T.sts.length + k * T.ins) : Nat) : Int)) = nD ((List.range T.sts.length).map fun k => stW (TB T) o c k - (T.sts.length + k * T.ins)) by unfold nD; rw [List.map_map]; rfl]
    (try simp only [List.set_cons_succ, List.set_cons_zero, freezeI, wipeE, backE, freeze, freezes, behind, List.getElem?_cons_succ, List.getElem?_cons_zero, Slot.val, Option.getD_some, ite_self])
    ((repeat ((conv => whnf); refine And.intro (by first | exact trivial | exact rfl | omega | assumption | decide | exact pls_nD _ _ | exact keysOk_kv _ _ _) ?_)); (conv => whnf))
    have hget : ∀ k, k < T.sts.length → ((List.range T.sts.length).map fun k => stW (TB T) o c k - (T.sts.length + k * T.ins)).getD k 0 = stW (TB T) o c k - (T.sts.length + k * T.ins) := fun k hk => by simp [List.getD, hk]
    have hby : ∀ k, k < T.sts.length → ((List.range T.sts.length).map fun k => stW (TB T) o c k - (T.sts.length + k * T.ins)).getD k 0 < T.ins ∧ stW (TB T) o c k = T.sts.length + k * T.ins + ((List.range T.sts.length).map fun k => stW (TB T) o c k - (T.sts.length + k * T.ins)).getD k 0 := fun k hk => by
      rw [hget k hk]
      obtain ⟨cc, hcc, ew⟩ := hway k hk
      rw [ew]
      omega
    refine q1 _ ⟨by simp, fun x hx => ?_, ref_rings hG hS h0 hby⟩ ⟨o, c, hS, h0, hby⟩
    obtain ⟨k, hk, rfl⟩ := List.mem_map.mp hx
    obtain ⟨cc, hcc, ew⟩ := hway k (List.mem_range.mp hk)
    rw [ew]
    omega
  · have h := nany_nDF (i := 0) h
    have h0 : wonBy o true 0 := by
      have h : 0 ∈ (List.range (TB T).length).filter (fun s => decide (getN o2 s = some (pN true))) := by simpa using h
      exact Sol.same hb hS2 hS (of_decide_eq_true (p := getN o2 0 = some (pN true)) (List.mem_filter.mp h).2)
    have hmem : ∀ k cc, k < T.sts.length → cc < T.ins → stW (TB T) o c (T.sts.length + k * T.ins + cc) ∈ T.row k cc := fun k cc hk hcc => by
      have := stW_mem hb hS (call_lt hG hk hcc)
      rw [TB_inn hG hk hcc] at this
      exact mem_sset.mp this
    ((repeat ((conv => whnf); refine And.intro (by first | exact trivial | exact rfl | omega | assumption | decide | exact pls_nD _ _ | exact keysOk_kv _ _ _) ?_)); (conv => whnf))
    refine And.intro (by unfold LB; omega) (And.intro (by omega) ?_)
    rw [rangeD_nat]
    generalize hRR : (List.range T.sts.length).map (fun k => (List.range T.ins).map fun cc => ixN (T.row k cc) (stW (TB T) o c (T.sts.length + k * T.ins + cc))) = R
    refine foW_inv (I := fun i ρ => i ≤ T.sts.length ∧ ∃ (s10 s11 : Slot), ρ = [.sh (tD T), .sh (.int (T.ins : Int)), .sh (.int (T.outs : Int)), .sh (.tup (T.sts.map stD)), .sh (.int (T.sts.length : Int)), .sh (bD (TB T)), .sh (.tup (nD (lvT T))), .sh (vD (stV (TB T) o c true)), .sh (vD (stV (TB T) o c false)), .ol ((R.take i).map rowD), s10, s11, .un]) ?_ ?_ ?_
    · exact ⟨Nat.zero_le _, _, _, rfl⟩
    · rintro k d ρ K hd ⟨hk, s10, s11, rfl⟩ hK
      have hlt : k < T.sts.length := by
        have := (List.getElem?_eq_some_iff.mp hd).1
        simpa [nD] using this
      have ed : d = .int (k : Int) := by
        have : (nD (List.range T.sts.length))[k]? = some (.int (k : Int)) := nD_get (by simp [hlt])
        rw [this] at hd
        exact (Option.some.inj hd).symm
      subst ed
      have hsp := GT.st_get hlt
      have er : R.take (k + 1) = R.take k ++ [(List.range T.ins).map fun cc => ixN (T.row k cc) (stW (TB T) o c (T.sts.length + k * T.ins + cc))] := by
        rw [List.take_succ, ← hRR]
        simp [hlt]
      have lR : ((R.take k).map rowD).length ≤ 5 := by rw [List.length_map, List.length_take]; omega
      ((repeat ((conv => whnf); refine And.intro (by first | exact trivial | exact rfl | omega | assumption | decide | exact pls_nD _ _ | exact keysOk_kv _ _ _) ?_)); (conv => whnf))
      refine And.intro (by unfold LB; omega) (And.intro (by omega) ?_)
      rw [rangeD_nat]
      refine lcW_onMap (fun (n : Nat) => D.int (n : Int)) (fun cc => .int ((stW (TB T) o c (T.sts.length + k * T.ins + cc) : Nat) : Int)) (List.range T.ins) (fun cc hcc K hK => ?_) ?_
      · have hcc := List.mem_range.mp hcc
        have hj := call_lt hG hlt hcc
        ((repeat ((conv => whnf); refine And.intro (by first | exact trivial | exact rfl | omega | assumption | decide | exact pls_nD _ _ | exact keysOk_kv _ _ _) ?_)); (conv => whnf))
        refine And.intro (.inl (.inl (by omega))) ?_
        ((repeat ((conv => whnf); refine And.intro (by first | exact trivial | exact rfl | omega | assumption | decide | exact pls_nD _ _ | exact keysOk_kv _ _ _) ?_)); (conv => whnf))
        have e : (T.sts.length : Int) + (k : Int) * (T.ins : Int) + (cc : Int) = ((T.sts.length + k * T.ins + cc : Nat) : Int) := by simp
        rw [e]
        refine idxL_nat (d := .int ((stW (TB T) o c (T.sts.length + k * T.ins + cc) : Nat) : Int)) ?_ ?_
        · unfold stV
          rw [List.getElem?_map, List.getElem?_map, List.getElem?_range hj]
          simp only [Option.map_some, TB_inn hG hlt hcc, if_true]
          rfl
        · ((repeat ((conv => whnf); refine And.intro (by first | exact trivial | exact rfl | omega | assumption | decide | exact pls_nD _ _ | exact keysOk_kv _ _ _) ?_)); (conv => whnf))
          exact hK
      rw [show (List.range T.ins).map (fun cc => D.int ((stW (TB T) o c (T.sts.length + k * T.ins + cc) : Nat) : Int)) = nD ((List.range T.ins).map fun cc => stW (TB T) o c (T.sts.length + k * T.ins + cc)) by unfold nD; rw [List.map_map]; rfl]
      (try simp only [List.set_cons_succ, List.set_cons_zero, freezeI, wipeE, backE, freeze, freezes, behind, List.getElem?_cons_succ, List.getElem?_cons_zero, Slot.val, Option.getD_some, ite_self])
      ((repeat ((conv => whnf); refine And.intro (by first | exact trivial | exact rfl | omega | assumption | decide | exact pls_nD _ _ | exact keysOk_kv _ _ _) ?_)); (conv => whnf))
      refine And.intro (by unfold LB; omega) (And.intro (by omega) ?_)
      rw [rangeD_nat]
      refine lcW_onMap (fun (n : Nat) => D.int (n : Int)) (fun cc => .int ((ixN (T.row k cc) (stW (TB T) o c (T.sts.length + k * T.ins + cc)) : Nat) : Int)) (List.range T.ins) (fun cc hcc K hK => ?_) ?_
      · have hcc := List.mem_range.mp hcc
        ((repeat ((conv => whnf); refine And.intro (by first | exact trivial | exact rfl | omega | assumption | decide | exact pls_nD _ _ | exact keysOk_kv _ _ _) ?_)); (conv => whnf))
        refine idxL_nat (d := stD (T.st k)) (by simp [hsp]) ?_
        ((repeat ((conv => whnf); refine And.intro (by first | exact trivial | exact rfl | omega | assumption | decide | exact pls_nD _ _ | exact keysOk_kv _ _ _) ?_)); (conv => whnf))
        refine idxL_nat (d := rowD (T.row k cc)) (by rw [List.getElem?_map, hG.row_get hlt hcc]; rfl) ?_
        ((repeat ((conv => whnf); refine And.intro (by first | exact trivial | exact rfl | omega | assumption | decide | exact pls_nD _ _ | exact keysOk_kv _ _ _) ?_)); (conv => whnf))
        refine And.intro (by show (2 : Nat) ≠ 0; decide) ?_
        ((repeat ((conv => whnf); refine And.intro (by first | exact trivial | exact rfl | omega | assumption | decide | exact pls_nD _ _ | exact keysOk_kv _ _ _) ?_)); (conv => whnf))
        refine idxL_nat (nD_get (i := cc) (l := (List.range T.ins).map fun cc => stW (TB T) o c (T.sts.length + k * T.ins + cc)) (k := stW (TB T) o c (T.sts.length + k * T.ins + cc)) (by simp [hcc])) ?_
        ((repeat ((conv => whnf); refine And.intro (by first | exact trivial | exact rfl | omega | assumption | decide | exact pls_nD _ _ | exact keysOk_kv _ _ _) ?_)); (conv => whnf))
        refine fndL_of (ixN_of (hmem k cc hlt hcc)).1 ?_
        ((repeat ((conv => whnf); refine And.intro (by first | exact trivial | exact rfl | omega | assumption | decide | exact pls_nD _ _ | exact keysOk_kv _ _ _) ?_)); (conv => whnf))
        exact hK
      rw [show (List.range T.ins).map (fun cc => D.int ((ixN (T.row k cc) (stW (TB T) o c (T.sts.length + k * T.ins + cc)) : Nat) : Int)) = nD ((List.range T.ins).map fun cc => ixN (T.row k cc) (stW (TB T) o c (T.sts.length + k * T.ins + cc))) by unfold nD; rw [List.map_map]; rfl]
      (try simp only [List.set_cons_succ, List.set_cons_zero, freezeI, wipeE, backE, freeze, freezes, behind, List.getElem?_cons_succ, List.getElem?_cons_zero, Slot.val, Option.getD_some, ite_self])
      ((repeat ((conv => whnf); refine And.intro (by first | exact trivial | exact rfl | omega | assumption | decide | exact pls_nD _ _ | exact keysOk_kv _ _ _) ?_)); (conv => whnf))
      refine And.intro (by unfold LB; omega) ?_
      refine hK _ ⟨hlt, .sh (.int (k : Int)), .ol (nD ((List.range T.ins).map fun cc => stW (TB T) o c (T.sts.length + k * T.ins + cc))), ?_⟩
      rw [er, List.map_append]
      rfl
    · rintro ρ ⟨hk, s10, s11, rfl⟩
      rw [nD_len, List.length_range, List.take_of_length_le (by rw [← hRR]; simp)]
      ((repeat ((conv => whnf); refine And.intro (by first | exact trivial | exact rfl | omega | assumption | decide | exact pls_nD _ _ | exact keysOk_kv _ _ _) ?_)); (conv => whnf))
      have hrow : ∀ k, k < T.sts.length → R.getD k [] = (List.range T.ins).map fun cc => ixN (T.row k cc) (stW (TB T) o c (T.sts.length + k * T.ins + cc)) := fun k hk => by rw [← hRR]; simp [List.getD, hk]
      have hby : ∀ k cc, k < T.sts.length → cc < T.ins → T.cell k cc ((R.getD k []).getD cc 0) = stW (TB T) o c (T.sts.length + k * T.ins + cc) := fun k cc hk hcc => by
        rw [hrow k hk]
        have e : ((List.range T.ins).map fun cc => ixN (T.row k cc) (stW (TB T) o c (T.sts.length + k * T.ins + cc))).getD cc 0 = ixN (T.row k cc) (stW (TB T) o c (T.sts.length + k * T.ins + cc)) := by simp [List.getD, hcc]
        rw [e]
        unfold Tk.cell
        rw [List.getD, (ixN_of (hmem k cc hk hcc)).2]
        rfl
      refine q2 R ⟨by rw [← hRR]; simp, fun r hr => ?_, fun r hr x hx => ?_, resp_rings hG hS h0 hby⟩ ⟨o, c, hS, h0, hby⟩
      · rw [← hRR] at hr
        obtain ⟨k, hk, rfl⟩ := List.mem_map.mp hr
        simp
      · rw [← hRR] at hr
        obtain ⟨k, hk, rfl⟩ := List.mem_map.mp hr
        obtain ⟨cc, hcc, rfl⟩ := List.mem_map.mp hx
        have hk := List.mem_range.mp hk
        have hcc := List.mem_range.mp hcc
        have := (List.getElem?_eq_some_iff.mp (ixN_of (hmem k cc hk hcc)).2).1
        rw [hG.row_len hk hcc] at this
        exact this
end Wg
set_option Elab.async false
set_option linter.all false
set_option maxRecDepth 100000
set_option maxHeartbeats 1000000
namespace Wg
def LR (T : Tk) (R : List (List Nat)) : Brd := (List.range T.sts.length).map fun k => (false, sset ((List.range T.ins).map fun cc => T.cell k cc ((R.getD k []).getD cc 0)))
def LF (T : Tk) (C : List Nat) : Brd := (List.range T.sts.length).map fun k => (true, sset (T.row k (C.getD k 0)))
structure ROk (T : Tk) (R : List (List Nat)) : Prop where
  len : R.length = T.sts.length
  row : ∀ r ∈ R, r.length = T.ins
  lt : ∀ r ∈ R, ∀ x ∈ r, x < T.outs
theorem RespOk.rok {T : Tk} {R : List (List Nat)} (h : RespOk T R) : ROk T R := ⟨h.len, h.row, h.lt⟩
section
variable {T : Tk} {R : List (List Nat)} {C : List Nat}
theorem ROk.get (h : ROk T R) {k : Nat} (hk : k < T.sts.length) : R[k]? = some (R.getD k []) := by
  have := h.len
  simp [List.getD, show k < R.length by omega]
theorem ROk.mem (h : ROk T R) {k : Nat} (hk : k < T.sts.length) : R.getD k [] ∈ R := List.mem_of_getElem? (h.get hk)
theorem ROk.get2 (h : ROk T R) {k c : Nat} (hk : k < T.sts.length) (hc : c < T.ins) : (R.getD k [])[c]? = some ((R.getD k []).getD c 0) := by
  have := h.row _ (h.mem hk)
  generalize R.getD k [] = r at this
  simp [List.getD, show c < r.length by omega]
theorem ROk.out (h : ROk T R) {k c : Nat} (hk : k < T.sts.length) (hc : c < T.ins) : (R.getD k []).getD c 0 < T.outs := h.lt _ (h.mem hk) _ (List.mem_of_getElem? (h.get2 hk hc))
theorem LR_len : (LR T R).length = T.sts.length := by simp [LR]
theorem LF_len : (LF T C).length = T.sts.length := by simp [LF]
theorem LR_spot {k : Nat} (hk : k < T.sts.length) : spot (LR T R) k = (false, sset ((List.range T.ins).map fun cc => T.cell k cc ((R.getD k []).getD cc 0))) := by
  show (LR T R).getD k (true, []) = _
  unfold LR
  rw [List.getD, List.getElem?_map, List.getElem?_range hk]; rfl
theorem LF_spot {k : Nat} (hk : k < T.sts.length) : spot (LF T C) k = (true, sset (T.row k (C.getD k 0))) := by
  show (LF T C).getD k (true, []) = _
  unfold LF
  rw [List.getD, List.getElem?_map, List.getElem?_range hk]; rfl
theorem LR_edge (a b : Nat) (h : bE (LR T R) a b) : respE T R a b := by
  obtain ⟨h1, h2⟩ := h
  rw [LR_len] at h1
  rw [LR_spot h1] at h2
  obtain ⟨cc, hcc, e⟩ := List.mem_map.mp (mem_sset.mp h2)
  exact ⟨h1, cc, List.mem_range.mp hcc, e.symm⟩
theorem LF_edge (hG : GT T) (hC : ∀ x ∈ C, x < T.ins) (hl : C.length = T.sts.length) (a b : Nat) (h : bE (LF T C) a b) : refE T C a b := by
  obtain ⟨h1, h2⟩ := h
  rw [LF_len] at h1
  rw [LF_spot h1] at h2
  have hc : C.getD a 0 < T.ins := hC _ (List.mem_of_getElem? (i := a) (by simp [List.getD, show a < C.length by omega]))
  obtain ⟨x, hx, e⟩ := List.getElem_of_mem (mem_sset.mp h2)
  rw [hG.row_len h1 hc] at hx
  refine ⟨h1, x, hx, ?_⟩
  have := hG.cell_get h1 hc hx
  rw [List.getElem?_eq_getElem (by rw [hG.row_len h1 hc]; exact hx), e] at this
  exact Option.some.inj this
theorem LR_nb (hG : GT T) (h : ROk T R) : NB (LR T R) := by
  have := hG.s5
  refine ⟨by rw [LR_len]; omega, fun s hs w hw => ?_, fun s hs => ?_⟩
  · rw [LR_len] at hs ⊢
    rw [LR_spot hs] at hw
    obtain ⟨cc, hcc, e⟩ := List.mem_map.mp (mem_sset.mp hw)
    have hcc := List.mem_range.mp hcc
    rw [← e]
    exact hG.cell_lt hs hcc (h.out hs hcc)
  · rw [LR_len] at hs
    rw [LR_spot hs]
    exact sset_nd _
theorem LF_nb (hG : GT T) (hC : ∀ x ∈ C, x < T.ins) (hl : C.length = T.sts.length) : NB (LF T C) := by
  have := hG.s5
  refine ⟨by rw [LF_len]; omega, fun s hs w hw => ?_, fun s hs => ?_⟩
  · rw [LF_len] at hs ⊢
    rw [LF_spot hs] at hw
    have hc : C.getD s 0 < T.ins := hC _ (List.mem_of_getElem? (i := s) (by simp [List.getD, show s < C.length by omega]))
    exact hG.cl _ (GT.st_mem hs) _ (hG.row_mem hs hc) _ (mem_sset.mp hw)
  · rw [LF_len] at hs
    rw [LF_spot hs]
    exact sset_nd _
end
theorem left_resp_ok {P : Prog} (hT : HasTB P) {n : Nat} {T : Tk} (hG : GT T) {R : List (List Nat)} (hR : ROk T R) {Q : D → Prop} (q : Q (bD (LR T R))) : run P (n + 1) 144 [tD T, .tup (R.map rowD)] Q := by
  refine run_of hT.h144 (by decide) ?_
  have hl : (T.sts.map stD).length = T.sts.length := List.length_map ..
  have i3 := hG.i3
  have s5 := hG.s5
  (refine wF_at [.sh _, .sh _, .un, .un, .un, .un, .un, .un] rfl (by decide) rfl ?_)
  ((repeat ((conv => whnf); refine And.intro (by first | exact trivial | exact rfl | omega | assumption | decide | exact pls_nD _ _ | exact keysOk_kv _ _ _) ?_)); (conv => whnf))
  rw [hl]
  refine And.intro (by unfold LB; omega) (And.intro (by omega) ?_)
  rw [rangeD_nat]
  refine foW_inv (I := fun i ρ => i ≤ T.sts.length ∧ ∃ (s6 : Slot), ρ = [.sh (tD T), .sh (.tup (R.map rowD)), .sh (.int (T.ins : Int)), .sh (.int (T.outs : Int)), .sh (.tup (T.sts.map stD)), .ol (((LR T R).take i).map spD), s6, .un]) ?_ ?_ ?_
  · exact ⟨Nat.zero_le _, _, rfl⟩
  · rintro k d ρ K hd ⟨hk, s6, rfl⟩ hK
    have hlt : k < T.sts.length := by
      have := (List.getElem?_eq_some_iff.mp hd).1
      simpa [nD] using this
    have ed : d = .int (k : Int) := by
      have : (nD (List.range T.sts.length))[k]? = some (.int (k : Int)) := nD_get (by simp [hlt])
      rw [this] at hd
      exact (Option.some.inj hd).symm
    subst ed
    have hsp := GT.st_get hlt
    have lacc : (((LR T R).take k).map spD).length ≤ 5 := by rw [List.length_map, List.length_take, LR_len]; omega
    ((repeat ((conv => whnf); refine And.intro (by first | exact trivial | exact rfl | omega | assumption | decide | exact pls_nD _ _ | exact keysOk_kv _ _ _) ?_)); (conv => whnf))
    refine And.intro (by unfold LB; omega) (And.intro (by omega) ?_)
    rw [rangeD_nat]
    refine lcW_onMap (fun (n : Nat) => D.int (n : Int)) (fun cc => .int ((T.cell k cc ((R.getD k []).getD cc 0) : Nat) : Int)) (List.range T.ins) (fun cc hcc K hK => ?_) ?_
    · have hcc := List.mem_range.mp hcc
      ((repeat ((conv => whnf); refine And.intro (by first | exact trivial | exact rfl | omega | assumption | decide | exact pls_nD _ _ | exact keysOk_kv _ _ _) ?_)); (conv => whnf))
      refine idxL_nat (d := stD (T.st k)) (by simp [hsp]) ?_
      ((repeat ((conv => whnf); refine And.intro (by first | exact trivial | exact rfl | omega | assumption | decide | exact pls_nD _ _ | exact keysOk_kv _ _ _) ?_)); (conv => whnf))
      refine idxL_nat (d := rowD (T.row k cc)) (by rw [List.getElem?_map, hG.row_get hlt hcc]; rfl) ?_
      ((repeat ((conv => whnf); refine And.intro (by first | exact trivial | exact rfl | omega | assumption | decide | exact pls_nD _ _ | exact keysOk_kv _ _ _) ?_)); (conv => whnf))
      refine idxL_nat (d := rowD (R.getD k [])) (by rw [List.getElem?_map, hR.get hlt]; rfl) ?_
      ((repeat ((conv => whnf); refine And.intro (by first | exact trivial | exact rfl | omega | assumption | decide | exact pls_nD _ _ | exact keysOk_kv _ _ _) ?_)); (conv => whnf))
      refine idxL_nat (nD_get (hR.get2 hlt hcc)) ?_
      ((repeat ((conv => whnf); refine And.intro (by first | exact trivial | exact rfl | omega | assumption | decide | exact pls_nD _ _ | exact keysOk_kv _ _ _) ?_)); (conv => whnf))
      refine idxL_nat (nD_get (hG.cell_get hlt hcc (hR.out hlt hcc))) ?_
      ((repeat ((conv => whnf); refine And.intro (by first | exact trivial | exact rfl | omega | assumption | decide | exact pls_nD _ _ | exact keysOk_kv _ _ _) ?_)); (conv => whnf))
      exact hK
    rw [show (List.range T.ins).map (fun cc => D.int ((T.cell k cc ((R.getD k []).getD cc 0) : Nat) : Int)) = nD ((List.range T.ins).map fun cc => T.cell k cc ((R.getD k []).getD cc 0)) by unfold nD; rw [List.map_map]; rfl]
    (try simp only [List.set_cons_succ, List.set_cons_zero, freezeI, wipeE, backE, freeze, freezes, behind, List.getElem?_cons_succ, List.getElem?_cons_zero, Slot.val, Option.getD_some, ite_self])
    ((repeat ((conv => whnf); refine And.intro (by first | exact trivial | exact rfl | omega | assumption | decide | exact pls_nD _ _ | exact keysOk_kv _ _ _) ?_)); (conv => whnf))
    refine sisL_set (by simp; omega) ?_
    (try simp only [List.set_cons_succ, List.set_cons_zero, freezeI, wipeE, backE, freeze, freezes, behind, List.getElem?_cons_succ, List.getElem?_cons_zero, Slot.val, Option.getD_some, ite_self])
    rw [sset_nD]
    ((repeat ((conv => whnf); refine And.intro (by first | exact trivial | exact rfl | omega | assumption | decide | exact pls_nD _ _ | exact keysOk_kv _ _ _) ?_)); (conv => whnf))
    refine And.intro (by unfold LB; omega) ?_
    refine hK _ ⟨hlt, .sh (.int (k : Int)), ?_⟩
    have er : (LR T R).take (k + 1) = (LR T R).take k ++ [(false, sset ((List.range T.ins).map fun cc => T.cell k cc ((R.getD k []).getD cc 0)))] := by
      rw [List.take_succ, spot_get (by rw [LR_len]; exact hlt), LR_spot hlt]; rfl
    rw [er, List.map_append]
    rfl
  · rintro ρ ⟨hk, s6, rfl⟩
    rw [nD_len, List.length_range, List.take_of_length_le (by rw [LR_len]; omega)]
    ((repeat ((conv => whnf); refine And.intro (by first | exact trivial | exact rfl | omega | assumption | decide | exact pls_nD _ _ | exact keysOk_kv _ _ _) ?_)); (conv => whnf))
    exact q
theorem left_ref_ok {P : Prog} (hT : HasTB P) {n : Nat} {T : Tk} (hG : GT T) {C : List Nat} (hC : ∀ x ∈ C, x < T.ins) (hl2 : C.length = T.sts.length) {Q : D → Prop} (q : Q (bD (LF T C))) : run P (n + 1) 143 [tD T, .tup (nD C)] Q := by
  refine run_of hT.h143 (by decide) ?_
  have o3 := hG.o3
  (refine wF_at [.sh _, .sh _, .un, .un] rfl (by decide) rfl ?_)
  ((repeat ((conv => whnf); refine And.intro (by first | exact trivial | exact rfl | omega | assumption | decide | exact pls_nD _ _ | exact keysOk_kv _ _ _) ?_)); (conv => whnf))
  have ez : List.zipWith (fun a b => D.tup [a, b]) (T.sts.map stD) (nD C) = (List.range T.sts.length).map fun k => .tup [stD (T.st k), .int (C.getD k 0 : Nat)] := by
    refine List.ext_getElem? fun i => ?_
    rw [List.getElem?_zipWith]
    by_cases h : i < T.sts.length
    · have e2 : C[i]? = some (C.getD i 0) := by simp [List.getD, show i < C.length by omega]
      rw [List.getElem?_map, GT.st_get h, nD_get e2, List.getElem?_map, List.getElem?_range h]
      rfl
    · rw [List.getElem?_eq_none (l := T.sts.map stD) (by simpa using h), List.getElem?_eq_none (l := nD C) (by rw [nD_len]; omega), List.getElem?_eq_none (l := (List.range T.sts.length).map _) (by simpa using h)]
  rw [ez]
  refine lcW_onMap (fun k => .tup [stD (T.st k), .int (C.getD k 0 : Nat)]) (fun k => spD (true, sset (T.row k (C.getD k 0)))) (List.range T.sts.length) (fun k hk K hK => ?_) ?_
  · have hk := List.mem_range.mp hk
    have hc : C.getD k 0 < T.ins := hC _ (List.mem_of_getElem? (i := k) (by simp [List.getD, show k < C.length by omega]))
    have hrl := hG.row_len hk hc
    ((repeat ((conv => whnf); refine And.intro (by first | exact trivial | exact rfl | omega | assumption | decide | exact pls_nD _ _ | exact keysOk_kv _ _ _) ?_)); (conv => whnf))
    refine idxL_nat (d := rowD (T.row k (C.getD k 0))) (by rw [List.getElem?_map, hG.row_get hk hc]; rfl) ?_
    ((repeat ((conv => whnf); refine And.intro (by first | exact trivial | exact rfl | omega | assumption | decide | exact pls_nD _ _ | exact keysOk_kv _ _ _) ?_)); (conv => whnf))
    refine sisL_set (by omega) ?_
    (try simp only [List.set_cons_succ, List.set_cons_zero, freezeI, wipeE, backE, freeze, freezes, behind, List.getElem?_cons_succ, List.getElem?_cons_zero, Slot.val, Option.getD_some, ite_self])
    rw [sset_nD]
    ((repeat ((conv => whnf); refine And.intro (by first | exact trivial | exact rfl | omega | assumption | decide | exact pls_nD _ _ | exact keysOk_kv _ _ _) ?_)); (conv => whnf))
    exact hK
  rw [show (List.range T.sts.length).map (fun k => spD (true, sset (T.row k (C.getD k 0)))) = (LF T C).map spD by unfold LF; rw [List.map_map]; rfl]
  (try simp only [List.set_cons_succ, List.set_cons_zero, freezeI, wipeE, backE, freeze, freezes, behind, List.getElem?_cons_succ, List.getElem?_cons_zero, Slot.val, Option.getD_some, ite_self])
  ((repeat ((conv => whnf); refine And.intro (by first | exact trivial | exact rfl | omega | assumption | decide | exact pls_nD _ _ | exact keysOk_kv _ _ _) ?_)); (conv => whnf))
  exact q
theorem is_resp_ok {P : Prog} (hT : HasTB P) {n : Nat} {T : Tk} (hG : GT T) {R : List (List Nat)} (hR : ROk T R) {Q : D → Prop} (q : Q (.bl true)) : run P (n + 2) 98 [tD T, .tup (R.map rowD)] Q := by
  refine run_of hT.h98 (by decide) ?_
  have hl : (T.sts.map stD).length = T.sts.length := List.length_map ..
  have hlR : (R.map rowD).length = T.sts.length := by rw [List.length_map]; exact hR.len
  (refine wF_at [.sh _, .sh _, .un, .un, .un, .un, .un] rfl (by decide) rfl ?_)
  ((repeat ((conv => whnf); refine And.intro (by first | exact trivial | exact rfl | omega | assumption | decide | exact pls_nD _ _ | exact keysOk_kv _ _ _) ?_)); (conv => whnf))
  rw [hl, hlR]
  refine bif_by (fun h => absurd (eqv_natF (not_T h)) (fun z => z rfl)) (fun _ => ?_)
  ((repeat ((conv => whnf); refine And.intro (by first | exact trivial | exact rfl | omega | assumption | decide | exact pls_nD _ _ | exact keysOk_kv _ _ _) ?_)); (conv => whnf))
  refine foW_inv (I := fun i ρ => ∃ (s5 : Slot), ρ = [.sh (tD T), .sh (.tup (R.map rowD)), .sh (.int (T.ins : Int)), .sh (.int (T.outs : Int)), .sh (.tup (T.sts.map stD)), s5, .un]) ⟨_, rfl⟩ ?_ ?_
  · rintro i d ρ K hd ⟨s5, rfl⟩ hK
    obtain ⟨r, hr, rfl⟩ := List.mem_map.mp (List.mem_of_getElem? hd)
    have hrl := hR.row r hr
    ((repeat ((conv => whnf); refine And.intro (by first | exact trivial | exact rfl | omega | assumption | decide | exact pls_nD _ _ | exact keysOk_kv _ _ _) ?_)); (conv => whnf))
    rw [nD_len, hrl]
    refine bif_by (fun h => absurd (eqv_natF (not_T h)) (fun z => z rfl)) (fun _ => ?_)
    ((repeat ((conv => whnf); refine And.intro (by first | exact trivial | exact rfl | omega | assumption | decide | exact pls_nD _ _ | exact keysOk_kv _ _ _) ?_)); (conv => whnf))
    refine lcW_onMap (fun (n : Nat) => D.int (n : Int)) (fun _ => .bl true) r (fun x hx K hK => ?_) ?_
    · have hlt := hR.lt r hr x hx
      ((repeat ((conv => whnf); refine And.intro (by first | exact trivial | exact rfl | omega | assumption | decide | exact pls_nD _ _ | exact keysOk_kv _ _ _) ?_)); (conv => whnf))
      refine whole_ok hT.toHasN ?_
      (try simp only [List.set_cons_succ, List.set_cons_zero, freezeI, wipeE, backE, freeze, freezes, behind, List.getElem?_cons_succ, List.getElem?_cons_zero, Slot.val, Option.getD_some, ite_self])
      ((repeat ((conv => whnf); refine And.intro (by first | exact trivial | exact rfl | omega | assumption | decide | exact pls_nD _ _ | exact keysOk_kv _ _ _) ?_)); (conv => whnf))
      have : D.lt (.int (x : Int)) (.int (T.outs : Int)) = true := by rw [lt_nat]; exact decide_eq_true hlt
      rw [this]
      exact hK
    (try simp only [List.set_cons_succ, List.set_cons_zero, freezeI, wipeE, backE, freeze, freezes, behind, List.getElem?_cons_succ, List.getElem?_cons_zero, Slot.val, Option.getD_some, ite_self])
    ((repeat ((conv => whnf); refine And.intro (by first | exact trivial | exact rfl | omega | assumption | decide | exact pls_nD _ _ | exact keysOk_kv _ _ _) ?_)); (conv => whnf))
    refine blsL_all fun bs hbs => ?_
    (try simp only [List.set_cons_succ, List.set_cons_zero, freezeI, wipeE, backE, freeze, freezes, behind, List.getElem?_cons_succ, List.getElem?_cons_zero, Slot.val, Option.getD_some, ite_self])
    ((repeat ((conv => whnf); refine And.intro (by first | exact trivial | exact rfl | omega | assumption | decide | exact pls_nD _ _ | exact keysOk_kv _ _ _) ?_)); (conv => whnf))
    rw [hbs]
    ((repeat ((conv => whnf); refine And.intro (by first | exact trivial | exact rfl | omega | assumption | decide | exact pls_nD _ _ | exact keysOk_kv _ _ _) ?_)); (conv => whnf))
    exact hK _ ⟨_, rfl⟩
  · rintro ρ ⟨s5, rfl⟩
    ((repeat ((conv => whnf); refine And.intro (by first | exact trivial | exact rfl | omega | assumption | decide | exact pls_nD _ _ | exact keysOk_kv _ _ _) ?_)); (conv => whnf))
    exact q
theorem is_ref_ok {P : Prog} (hT : HasTB P) {n : Nat} {T : Tk} {C : List Nat} (hC : ∀ x ∈ C, x < T.ins) (hl2 : C.length = T.sts.length) {Q : D → Prop} (q : Q (.bl true)) : run P (n + 2) 97 [tD T, .tup (nD C)] Q := by
  refine run_of hT.h97 (by decide) ?_
  have hl : (T.sts.map stD).length = T.sts.length := List.length_map ..
  (refine wF_at [.sh _, .sh _, .un] rfl (by decide) rfl ?_)
  ((repeat ((conv => whnf); refine And.intro (by first | exact trivial | exact rfl | omega | assumption | decide | exact pls_nD _ _ | exact keysOk_kv _ _ _) ?_)); (conv => whnf))
  rw [hl, nD_len, hl2]
  refine bif_by (fun h => absurd (eqv_natF (not_T h)) (fun z => z rfl)) (fun _ => ?_)
  ((repeat ((conv => whnf); refine And.intro (by first | exact trivial | exact rfl | omega | assumption | decide | exact pls_nD _ _ | exact keysOk_kv _ _ _) ?_)); (conv => whnf))
  refine lcW_onMap (fun (n : Nat) => D.int (n : Int)) (fun _ => .bl true) C (fun x hx K hK => ?_) ?_
  · have hlt := hC x hx
    ((repeat ((conv => whnf); refine And.intro (by first | exact trivial | exact rfl | omega | assumption | decide | exact pls_nD _ _ | exact keysOk_kv _ _ _) ?_)); (conv => whnf))
    refine whole_ok hT.toHasN ?_
    (try simp only [List.set_cons_succ, List.set_cons_zero, freezeI, wipeE, backE, freeze, freezes, behind, List.getElem?_cons_succ, List.getElem?_cons_zero, Slot.val, Option.getD_some, ite_self])
    ((repeat ((conv => whnf); refine And.intro (by first | exact trivial | exact rfl | omega | assumption | decide | exact pls_nD _ _ | exact keysOk_kv _ _ _) ?_)); (conv => whnf))
    (try simp only [List.set_cons_succ, List.set_cons_zero, freezeI, wipeE, backE, freeze, freezes, behind, List.getElem?_cons_succ, List.getElem?_cons_zero, Slot.val, Option.getD_some, ite_self])
    have : D.lt (.int (x : Int)) (.int (T.ins : Int)) = true := by rw [lt_nat]; exact decide_eq_true hlt
    rw [this]
    exact hK
  (try simp only [List.set_cons_succ, List.set_cons_zero, freezeI, wipeE, backE, freeze, freezes, behind, List.getElem?_cons_succ, List.getElem?_cons_zero, Slot.val, Option.getD_some, ite_self])
  ((repeat ((conv => whnf); refine And.intro (by first | exact trivial | exact rfl | omega | assumption | decide | exact pls_nD _ _ | exact keysOk_kv _ _ _) ?_)); (conv => whnf))
  refine blsL_all fun bs hbs => ?_
  (try simp only [List.set_cons_succ, List.set_cons_zero, freezeI, wipeE, backE, freeze, freezes, behind, List.getElem?_cons_succ, List.getElem?_cons_zero, Slot.val, Option.getD_some, ite_self])
  ((repeat ((conv => whnf); refine And.intro (by first | exact trivial | exact rfl | omega | assumption | decide | exact pls_nD _ _ | exact keysOk_kv _ _ _) ?_)); (conv => whnf))
  rw [hbs]
  exact q
theorem named_ok {P : Prog} (hT : HasN P) {n : Nat} {w name : List Nat} (hw : (w.all fun c => decide (c < 1114112)) = true) (hn : (name.all fun c => decide (c < 1114112)) = true) {x : D} {Q : D → Prop} (q : Q (.bl (D.eqv (.str w) (.str name)))) : run P (n + 1) 93 [.tup [.str w, x], .str name, .int 2] Q := by
  refine run_of hT.h93 (by decide) ?_
  (refine wF_at [.sh _, .sh _, .sh _] rfl (by decide) rfl ?_)
  ((repeat ((conv => whnf); refine And.intro (by first | exact trivial | exact rfl | omega | assumption | decide | exact pls_nD _ _ | exact keysOk_kv _ _ _) ?_)); (conv => whnf))
  exact q
theorem ring_run {P : Prog} (hL : HasL P) (hT : HasN P) {n : Nat} {b : Brd} (hB : NB b) {lv : List Nat} (hlv : lv.length = b.length) {X : List Nat} (hX : ∀ x ∈ X, x < b.length) {odd : Nat} (no : ∀ s ∈ X, ∀ m, MP.Wlk (bE b) (fun s => lv.getD s 0) s s m → m % 2 ≠ odd) {Q : D → Prop} (q : Q (.bl false)) :
    run P (n + 2) 80 [bD b, .tup (nD lv), .tup (nD X), .int (odd : Int)] Q :=
  run_of hT.h80 (by decide) (ring_ok _ hB hlv (fun b X Q hb hq => run_of hL.h233 (by decide) (within_ok _ hb hq)) (fun b start Q hB hs hq => run_of hT.h183 (by decide) (reached_ok _ hB _ hs hq)) hX no q)
theorem lev_eq {T : Tk} {b : Brd} (hb : b.length = T.sts.length) {a c : Nat} (h : bE b a c) : (T.sts.map (·.1)).getD a 0 = T.lev a := by
  have := h.1
  rw [hb] at this
  rw [List.getD, List.getElem?_map, GT.st_get this]; rfl
theorem check_resp_ok {P : Prog} (hL : HasL P) (hT : HasTB P) {n : Nat} {T : Tk} (hG : GT T) {R : List (List Nat)} (hR : RespOk T R) {Q : D → Prop} (q : Q (.bl true)) : run P (n + 4) 58 [tD T, .tup [.str responderW, .tup (R.map rowD)]] Q := by
  refine run_of hT.h58 (by decide) ?_
  (refine wF_at [.sh _, .sh _, .un, .un, .un, .un] rfl (by decide) rfl ?_)
  ((repeat ((conv => whnf); refine And.intro (by first | exact trivial | exact rfl | omega | assumption | decide | exact pls_nD _ _ | exact keysOk_kv _ _ _) ?_)); (conv => whnf))
  refine lcW_onMap stD (fun p => .int (p.1 : Nat)) T.sts (fun p hp K hK => ?_) ?_
  · ((repeat ((conv => whnf); refine And.intro (by first | exact trivial | exact rfl | omega | assumption | decide | exact pls_nD _ _ | exact keysOk_kv _ _ _) ?_)); (conv => whnf))
    exact hK
  rw [show T.sts.map (fun p => D.int (p.1 : Nat)) = nD (T.sts.map (·.1)) by unfold nD; rw [List.map_map]; rfl]
  (try simp only [List.set_cons_succ, List.set_cons_zero, freezeI, wipeE, backE, freeze, freezes, behind, List.getElem?_cons_succ, List.getElem?_cons_zero, Slot.val, Option.getD_some, ite_self])
  ((repeat ((conv => whnf); refine And.intro (by first | exact trivial | exact rfl | omega | assumption | decide | exact pls_nD _ _ | exact keysOk_kv _ _ _) ?_)); (conv => whnf))
  refine named_ok hT.toHasN (by decide) (by decide) ?_
  (try simp only [List.set_cons_succ, List.set_cons_zero, freezeI, wipeE, backE, freeze, freezes, behind, List.getElem?_cons_succ, List.getElem?_cons_zero, Slot.val, Option.getD_some, ite_self])
  ((repeat ((conv => whnf); refine And.intro (by first | exact trivial | exact rfl | omega | assumption | decide | exact pls_nD _ _ | exact keysOk_kv _ _ _) ?_)); (conv => whnf))
  refine is_resp_ok hT hG hR.rok ?_
  (try simp only [List.set_cons_succ, List.set_cons_zero, freezeI, wipeE, backE, freeze, freezes, behind, List.getElem?_cons_succ, List.getElem?_cons_zero, Slot.val, Option.getD_some, ite_self])
  ((repeat ((conv => whnf); refine And.intro (by first | exact trivial | exact rfl | omega | assumption | decide | exact pls_nD _ _ | exact keysOk_kv _ _ _) ?_)); (conv => whnf))
  refine left_resp_ok hT hG hR.rok ?_
  have hNB := LR_nb hG hR.rok
  (try simp only [List.set_cons_succ, List.set_cons_zero, freezeI, wipeE, backE, freeze, freezes, behind, List.getElem?_cons_succ, List.getElem?_cons_zero, Slot.val, Option.getD_some, ite_self])
  ((repeat ((conv => whnf); refine And.intro (by first | exact trivial | exact rfl | omega | assumption | decide | exact pls_nD _ _ | exact keysOk_kv _ _ _) ?_)); (conv => whnf))
  refine run_of hT.h183 (by decide) (reached_ok _ hNB (fun s => (T.sts.map (·.1)).getD s 0) (start := 0) (by rw [LR_len]; exact hG.s1) fun X hX hre => ?_)
  (try simp only [List.set_cons_succ, List.set_cons_zero, freezeI, wipeE, backE, freeze, freezes, behind, List.getElem?_cons_succ, List.getElem?_cons_zero, Slot.val, Option.getD_some, ite_self])
  ((repeat ((conv => whnf); refine And.intro (by first | exact trivial | exact rfl | omega | assumption | decide | exact pls_nD _ _ | exact keysOk_kv _ _ _) ?_)); (conv => whnf))
  refine ring_run (odd := 1) hL hT.toHasN hNB (by rw [LR_len, List.length_map]) hX (fun s hs m w => ?_) ?_
  · have w := (w.relev (lev' := T.lev) fun a b e => lev_eq LR_len e).mono LR_edge
    have := hR.rings s m ((hre s hs).imp id fun ⟨m', w'⟩ => ⟨m', (w'.relev (lev' := T.lev) fun a b e => lev_eq LR_len e).mono LR_edge⟩) w
    omega
  (try simp only [List.set_cons_succ, List.set_cons_zero, freezeI, wipeE, backE, freeze, freezes, behind, List.getElem?_cons_succ, List.getElem?_cons_zero, Slot.val, Option.getD_some, ite_self])
  ((repeat ((conv => whnf); refine And.intro (by first | exact trivial | exact rfl | omega | assumption | decide | exact pls_nD _ _ | exact keysOk_kv _ _ _) ?_)); (conv => whnf))
  exact q
theorem check_ref_ok {P : Prog} (hL : HasL P) (hT : HasTB P) {n : Nat} {T : Tk} (hG : GT T) {C : List Nat} (hC : RefOk T C) {Q : D → Prop} (q : Q (.bl true)) : run P (n + 4) 58 [tD T, .tup [.str refuserW, .tup (nD C)]] Q := by
  refine run_of hT.h58 (by decide) ?_
  (refine wF_at [.sh _, .sh _, .un, .un, .un, .un] rfl (by decide) rfl ?_)
  ((repeat ((conv => whnf); refine And.intro (by first | exact trivial | exact rfl | omega | assumption | decide | exact pls_nD _ _ | exact keysOk_kv _ _ _) ?_)); (conv => whnf))
  refine lcW_onMap stD (fun p => .int (p.1 : Nat)) T.sts (fun p hp K hK => ?_) ?_
  · ((repeat ((conv => whnf); refine And.intro (by first | exact trivial | exact rfl | omega | assumption | decide | exact pls_nD _ _ | exact keysOk_kv _ _ _) ?_)); (conv => whnf))
    exact hK
  rw [show T.sts.map (fun p => D.int (p.1 : Nat)) = nD (T.sts.map (·.1)) by unfold nD; rw [List.map_map]; rfl]
  (try simp only [List.set_cons_succ, List.set_cons_zero, freezeI, wipeE, backE, freeze, freezes, behind, List.getElem?_cons_succ, List.getElem?_cons_zero, Slot.val, Option.getD_some, ite_self])
  ((repeat ((conv => whnf); refine And.intro (by first | exact trivial | exact rfl | omega | assumption | decide | exact pls_nD _ _ | exact keysOk_kv _ _ _) ?_)); (conv => whnf))
  refine named_ok hT.toHasN (by decide) (by decide) ?_
  (try simp only [List.set_cons_succ, List.set_cons_zero, freezeI, wipeE, backE, freeze, freezes, behind, List.getElem?_cons_succ, List.getElem?_cons_zero, Slot.val, Option.getD_some, ite_self])
  ((repeat ((conv => whnf); refine And.intro (by first | exact trivial | exact rfl | omega | assumption | decide | exact pls_nD _ _ | exact keysOk_kv _ _ _) ?_)); (conv => whnf))
  refine named_ok hT.toHasN (by decide) (by decide) ?_
  (try simp only [List.set_cons_succ, List.set_cons_zero, freezeI, wipeE, backE, freeze, freezes, behind, List.getElem?_cons_succ, List.getElem?_cons_zero, Slot.val, Option.getD_some, ite_self])
  ((repeat ((conv => whnf); refine And.intro (by first | exact trivial | exact rfl | omega | assumption | decide | exact pls_nD _ _ | exact keysOk_kv _ _ _) ?_)); (conv => whnf))
  refine is_ref_ok hT hC.lt hC.len ?_
  (try simp only [List.set_cons_succ, List.set_cons_zero, freezeI, wipeE, backE, freeze, freezes, behind, List.getElem?_cons_succ, List.getElem?_cons_zero, Slot.val, Option.getD_some, ite_self])
  ((repeat ((conv => whnf); refine And.intro (by first | exact trivial | exact rfl | omega | assumption | decide | exact pls_nD _ _ | exact keysOk_kv _ _ _) ?_)); (conv => whnf))
  refine left_ref_ok hT hG hC.lt hC.len ?_
  have hNB := LF_nb hG hC.lt hC.len
  (try simp only [List.set_cons_succ, List.set_cons_zero, freezeI, wipeE, backE, freeze, freezes, behind, List.getElem?_cons_succ, List.getElem?_cons_zero, Slot.val, Option.getD_some, ite_self])
  ((repeat ((conv => whnf); refine And.intro (by first | exact trivial | exact rfl | omega | assumption | decide | exact pls_nD _ _ | exact keysOk_kv _ _ _) ?_)); (conv => whnf))
  refine run_of hT.h183 (by decide) (reached_ok _ hNB (fun s => (T.sts.map (·.1)).getD s 0) (start := 0) (by rw [LF_len]; exact hG.s1) fun X hX hre => ?_)
  (try simp only [List.set_cons_succ, List.set_cons_zero, freezeI, wipeE, backE, freeze, freezes, behind, List.getElem?_cons_succ, List.getElem?_cons_zero, Slot.val, Option.getD_some, ite_self])
  ((repeat ((conv => whnf); refine And.intro (by first | exact trivial | exact rfl | omega | assumption | decide | exact pls_nD _ _ | exact keysOk_kv _ _ _) ?_)); (conv => whnf))
  refine ring_run (odd := 0) hL hT.toHasN hNB (by rw [LF_len, List.length_map]) hX (fun s hs m w => ?_) ?_
  · have w := (w.relev (lev' := T.lev) fun a b e => lev_eq LF_len e).mono (LF_edge hG hC.lt hC.len)
    have := hC.rings s m ((hre s hs).imp id fun ⟨m', w'⟩ => ⟨m', (w'.relev (lev' := T.lev) fun a b e => lev_eq LF_len e).mono (LF_edge hG hC.lt hC.len)⟩) w
    omega
  (try simp only [List.set_cons_succ, List.set_cons_zero, freezeI, wipeE, backE, freeze, freezes, behind, List.getElem?_cons_succ, List.getElem?_cons_zero, Slot.val, Option.getD_some, ite_self])
  ((repeat ((conv => whnf); refine And.intro (by first | exact trivial | exact rfl | omega | assumption | decide | exact pls_nD _ _ | exact keysOk_kv _ _ _) ?_)); (conv => whnf))
  exact q
end Wg
set_option Elab.async false
set_option linter.all false
set_option maxRecDepth 100000
set_option maxHeartbeats 1000000
namespace Wg
theorem All2.at {α β : Type} {R : α → β → Prop} : ∀ {l : List α} {m : List β}, All2 R l m → ∀ {i : Nat} {a : α}, l[i]? = some a → ∃ b, m[i]? = some b ∧ R a b
  | _, _, .nil, i, a, h => by simp at h
  | _, _, .cons r t, i, a, h => by
    cases i with
    | zero => exact ⟨_, rfl, by simp at h; exact h ▸ r⟩
    | succ i => exact t.at (i := i) (by simpa using h)
theorem All2.right {α β : Type} {R : α → β → Prop} : ∀ {l : List α} {m : List β}, All2 R l m → ∀ {b : β}, b ∈ m → ∃ a ∈ l, R a b
  | _, _, .nil, b, h => by simp at h
  | _, _, .cons r t, b, h => by
    rcases List.mem_cons.mp h with e | e
    · subst e; exact ⟨_, List.mem_cons_self, r⟩
    · obtain ⟨a, h1, h2⟩ := t.right e
      exact ⟨a, List.mem_cons_of_mem _ h1, h2⟩
theorem All2.len {α β : Type} {R : α → β → Prop} : ∀ {l : List α} {m : List β}, All2 R l m → m.length = l.length
  | _, _, .nil => rfl
  | _, _, .cons _ t => by rw [List.length_cons, List.length_cons, t.len]
section
variable {T : Tk} {R : List (List Nat)} {C : List Nat}
end
theorem lcW_obj {α β : Type} {step : D → Env → (Option D → Env → Prop) → Prop} {ρ : Env} {Q : List D → Env → Prop} (f : α → D) (e : β → D) (R : α → β → Prop) : ∀ (l : List α) (acc : List D), (∀ a ∈ l, ∀ K : Option D → Env → Prop, (∀ x : β, R a x → K (some (e x)) ρ) → step (f a) ρ K) →
    (∀ xs : List β, All2 R l xs → Q (acc ++ xs.map e) ρ) → lcW step (l.map f) acc ρ Q
  | [], acc, _, q => by
    have := q [] .nil
    rw [List.map_nil, List.append_nil] at this
    exact this
  | x :: xs, acc, h, q => by
    refine h x List.mem_cons_self _ fun k hk => ?_
    refine lcW_obj f e R xs _ (fun a ha => h a (List.mem_cons_of_mem _ ha)) fun ks hks => ?_
    have := q (k :: ks) (.cons hk hks)
    have e : acc ++ List.map e (k :: ks) = acc ++ [e k] ++ List.map e ks := by simp
    rw [e] at this
    exact this
theorem lcW_obj0 {α β : Type} {step : D → Env → (Option D → Env → Prop) → Prop} {ρ : Env} {Q : List D → Env → Prop} (f : α → D) (e : β → D) (R : α → β → Prop) (l : List α) (h : ∀ a ∈ l, ∀ K : Option D → Env → Prop, (∀ x : β, R a x → K (some (e x)) ρ) → step (f a) ρ K)
    (q : ∀ xs : List β, All2 R l xs → Q (xs.map e) ρ) : lcW step (l.map f) [] ρ Q := lcW_obj f e R l [] h q
theorem All2.any {α β : Type} {R : α → β → Prop} {S : β → Prop} (h : ∀ a b, R a b → S b) : ∀ {l : List α} {m : List β}, All2 R l m → ∀ b ∈ m, S b := fun hm b hb => by
  obtain ⟨a, _, r⟩ := hm.right hb
  exact h a b r
end Wg
set_option Elab.async false
set_option linter.all false
set_option maxRecDepth 100000
set_option maxHeartbeats 0
namespace Wg
structure HasC (P : Prog) : Prop where
  h104 : P.fns 104 = some f_is_whole
  h100 : P.fns 100 = some f_is_strategy
  h163 : P.fns 163 = some f_need_strategy
  h142 : P.fns 142 = some f_left_by
/-- a strategy of a player -/
structure StrOk (b : Brd) (p : Bool) (v : List (Option Nat)) : Prop where
  len : v.length = b.length
  mine : ∀ s, s < b.length → (spot b s).1 = p → ∃ w, vec v s = some w ∧ w ∈ (spot b s).2
  other : ∀ s, s < b.length → (spot b s).1 ≠ p → vec v s = none
theorem zip_bv {b : Brd} {v : List (Option Nat)} (h : v.length = b.length) : List.zipWith (fun a b => D.tup [a, b]) (b.map spD) (v.map oD) = (List.range b.length).map fun s => .tup [spD (spot b s), oD (vec v s)] := by
  refine List.ext_getElem? fun i => ?_
  rw [List.getElem?_zipWith]
  by_cases c : i < b.length
  · have e2 : v[i]? = some (vec v i) := by simp [vec, List.getD, show i < v.length by omega]
    rw [List.getElem?_map, spot_get c, List.getElem?_map, e2, List.getElem?_map, List.getElem?_range c]
    rfl
  · rw [List.getElem?_eq_none (l := b.map spD) (by simpa using c), List.getElem?_eq_none (l := v.map oD) (by rw [List.length_map]; omega), List.getElem?_eq_none (l := (List.range b.length).map _) (by simpa using c)]
theorem is_strategy_ok {P : Prog} (hC : HasC P) {n : Nat} {b : Brd} {p : Bool} {v : List (Option Nat)} (h : StrOk b p v) {Q : D → Prop} (q : Q (.bl true)) : run P (n + 2) 100 [bD b, pD p, vD v] Q := by
  refine run_of hC.h100 (by decide) ?_
  have hl : (b.map spD).length = b.length := List.length_map ..
  have hlv : (v.map oD).length = b.length := by rw [List.length_map]; exact h.len
  (refine wF_at [.sh _, .sh _, .sh _, .un, .un, .un] rfl (by decide) rfl ?_)
  ((repeat ((conv => whnf); refine And.intro (by first | exact trivial | exact rfl | omega | assumption | decide | exact pls_nD _ _ | exact keysOk_kv _ _ _) ?_)); (conv => whnf))
  rw [hl, hlv]
  refine bif_by (fun h => absurd (eqv_natF (not_T h)) (fun z => z rfl)) (fun _ => ?_)
  ((repeat ((conv => whnf); refine And.intro (by first | exact trivial | exact rfl | omega | assumption | decide | exact pls_nD _ _ | exact keysOk_kv _ _ _) ?_)); (conv => whnf))
  rw [zip_bv h.len]
  (try simp only [List.set_cons_succ, List.set_cons_zero, freezeI, wipeE, backE, freeze, freezes, behind, List.getElem?_cons_succ, List.getElem?_cons_zero, Slot.val, Option.getD_some, ite_self])
  refine foW_inv (I := fun i ρ => ∃ (s3 s4 s5 : Slot), ρ = [.sh (bD b), .sh (pD p), .sh (vD v), s3, s4, s5]) ⟨_, _, _, rfl⟩ ?_ ?_
  · rintro i d ρ K hd ⟨s3, s4, s5, rfl⟩ hK
    obtain ⟨s, hs, rfl⟩ := List.mem_map.mp (List.mem_of_getElem? hd)
    have hs := List.mem_range.mp hs
    by_cases ho : (spot b s).1 = p
    · obtain ⟨w, e, hw⟩ := h.mine s hs ho
      rw [e]
      ((repeat ((conv => whnf); refine And.intro (by first | exact trivial | exact rfl | omega | assumption | decide | exact pls_nD _ _ | exact keysOk_kv _ _ _) ?_)); (conv => whnf))
      refine bif_by (fun h => ?_) (fun _ => ?_)
      · exact absurd ((own_eqv _ _).symm.trans (not_T h)) (by simp [ho])
      · ((repeat ((conv => whnf); refine And.intro (by first | exact trivial | exact rfl | omega | assumption | decide | exact pls_nD _ _ | exact keysOk_kv _ _ _) ?_)); (conv => whnf))
        refine bif_by (fun _ => ?_) (fun h => ?_)
        · ((repeat ((conv => whnf); refine And.intro (by first | exact trivial | exact rfl | omega | assumption | decide | exact pls_nD _ _ | exact keysOk_kv _ _ _) ?_)); (conv => whnf))
          refine run_of hC.h104 (by decide) ?_
          (refine wF_at [.sh _] rfl (by decide) rfl ?_)
          ((repeat ((conv => whnf); refine And.intro (by first | exact trivial | exact rfl | omega | assumption | decide | exact pls_nD _ _ | exact keysOk_kv _ _ _) ?_)); (conv => whnf))
          (try simp only [List.set_cons_succ, List.set_cons_zero, freezeI, wipeE, backE, freeze, freezes, behind, List.getElem?_cons_succ, List.getElem?_cons_zero, Slot.val, Option.getD_some, ite_self])
          ((repeat ((conv => whnf); refine And.intro (by first | exact trivial | exact rfl | omega | assumption | decide | exact pls_nD _ _ | exact keysOk_kv _ _ _) ?_)); (conv => whnf))
          refine bif_by (fun h => absurd (nany_nDT h) (by simp [hw])) (fun _ => ?_)
          ((repeat ((conv => whnf); refine And.intro (by first | exact trivial | exact rfl | omega | assumption | decide | exact pls_nD _ _ | exact keysOk_kv _ _ _) ?_)); (conv => whnf))
          exact hK _ ⟨_, _, _, rfl⟩
        · exact absurd ((own_eqv _ _).symm.trans h) (by simp [ho])
    · rw [h.other s hs ho]
      ((repeat ((conv => whnf); refine And.intro (by first | exact trivial | exact rfl | omega | assumption | decide | exact pls_nD _ _ | exact keysOk_kv _ _ _) ?_)); (conv => whnf))
      refine bif_by (fun _ => ?_) (fun h => ?_)
      · ((repeat ((conv => whnf); refine And.intro (by first | exact trivial | exact rfl | omega | assumption | decide | exact pls_nD _ _ | exact keysOk_kv _ _ _) ?_)); (conv => whnf))
        refine bif_by (fun h => ?_) (fun _ => ?_)
        · exact absurd ((own_eqv _ _).symm.trans h) (by simp [ho])
        · ((repeat ((conv => whnf); refine And.intro (by first | exact trivial | exact rfl | omega | assumption | decide | exact pls_nD _ _ | exact keysOk_kv _ _ _) ?_)); (conv => whnf))
          exact hK _ ⟨_, _, _, rfl⟩
      · exact absurd ((own_eqv _ _).symm.trans (not_F h)) (by simp [ho])
  · rintro ρ ⟨s3, s4, s5, rfl⟩
    ((repeat ((conv => whnf); refine And.intro (by first | exact trivial | exact rfl | omega | assumption | decide | exact pls_nD _ _ | exact keysOk_kv _ _ _) ?_)); (conv => whnf))
    exact q
theorem need_strategy_ok {P : Prog} (hC : HasC P) {n : Nat} {b : Brd} {p : Bool} {v : List (Option Nat)} (h : StrOk b p v) {Q : D → Prop} (q : Q .non) : run P (n + 3) 163 [bD b, pD p, vD v] Q := by
  refine run_of hC.h163 (by decide) ?_
  (refine wF_at [.sh _, .sh _, .sh _] rfl (by decide) rfl ?_)
  ((repeat ((conv => whnf); refine And.intro (by first | exact trivial | exact rfl | omega | assumption | decide | exact pls_nD _ _ | exact keysOk_kv _ _ _) ?_)); (conv => whnf))
  refine is_strategy_ok hC h ?_
  (try simp only [List.set_cons_succ, List.set_cons_zero, freezeI, wipeE, backE, freeze, freezes, behind, List.getElem?_cons_succ, List.getElem?_cons_zero, Slot.val, Option.getD_some, ite_self])
  ((repeat ((conv => whnf); refine And.intro (by first | exact trivial | exact rfl | omega | assumption | decide | exact pls_nD _ _ | exact keysOk_kv _ _ _) ?_)); (conv => whnf))
  exact q
/-- what a strategy leaves -/
def leftB (b : Brd) (p : Bool) (v : List (Option Nat)) : Brd := (List.range b.length).map fun s => ((spot b s).1, if (spot b s).1 = p then [(vec v s).getD 0] else (spot b s).2)
theorem left_by_ok {P : Prog} (hC : HasC P) {n : Nat} {b : Brd} {p : Bool} {v : List (Option Nat)} (h : StrOk b p v) {Q : D → Prop} (q : Q (bD (leftB b p v))) : run P (n + 4) 142 [bD b, pD p, vD v] Q := by
  refine run_of hC.h142 (by decide) ?_
  (refine wF_at [.sh _, .sh _, .sh _, .un, .un, .un] rfl (by decide) rfl ?_)
  ((repeat ((conv => whnf); refine And.intro (by first | exact trivial | exact rfl | omega | assumption | decide | exact pls_nD _ _ | exact keysOk_kv _ _ _) ?_)); (conv => whnf))
  refine need_strategy_ok hC h ?_
  (try simp only [List.set_cons_succ, List.set_cons_zero, freezeI, wipeE, backE, freeze, freezes, behind, List.getElem?_cons_succ, List.getElem?_cons_zero, Slot.val, Option.getD_some, ite_self])
  ((repeat ((conv => whnf); refine And.intro (by first | exact trivial | exact rfl | omega | assumption | decide | exact pls_nD _ _ | exact keysOk_kv _ _ _) ?_)); (conv => whnf))
  rw [zip_bv h.len]
  refine lcW_onMap (fun s => .tup [spD (spot b s), oD (vec v s)]) (fun s => spD ((spot b s).1, if (spot b s).1 = p then [(vec v s).getD 0] else (spot b s).2)) (List.range b.length) (fun s hs K hK => ?_) ?_
  · have hs := List.mem_range.mp hs
    ((repeat ((conv => whnf); refine And.intro (by first | exact trivial | exact rfl | omega | assumption | decide | exact pls_nD _ _ | exact keysOk_kv _ _ _) ?_)); (conv => whnf))
    refine bif_by (fun hh => ?_) (fun hh => ?_)
    · have ho : (spot b s).1 = p := of_decide_eq_true ((own_eqv _ _).symm.trans hh)
      obtain ⟨w, e, hw⟩ := h.mine s hs ho
      rw [if_pos ho, e] at hK
      rw [e]
      ((repeat ((conv => whnf); refine And.intro (by first | exact trivial | exact rfl | omega | assumption | decide | exact pls_nD _ _ | exact keysOk_kv _ _ _) ?_)); (conv => whnf))
      exact hK
    · have ho : ¬ (spot b s).1 = p := of_decide_eq_false ((own_eqv _ _).symm.trans hh)
      rw [if_neg ho] at hK
      ((repeat ((conv => whnf); refine And.intro (by first | exact trivial | exact rfl | omega | assumption | decide | exact pls_nD _ _ | exact keysOk_kv _ _ _) ?_)); (conv => whnf))
      exact hK
  rw [show (List.range b.length).map (fun s => spD ((spot b s).1, if (spot b s).1 = p then [(vec v s).getD 0] else (spot b s).2)) = (leftB b p v).map spD by unfold leftB; rw [List.map_map]; rfl]
  (try simp only [List.set_cons_succ, List.set_cons_zero, freezeI, wipeE, backE, freeze, freezes, behind, List.getElem?_cons_succ, List.getElem?_cons_zero, Slot.val, Option.getD_some, ite_self])
  ((repeat ((conv => whnf); refine And.intro (by first | exact trivial | exact rfl | omega | assumption | decide | exact pls_nD _ _ | exact keysOk_kv _ _ _) ?_)); (conv => whnf))
  exact q
end Wg
set_option Elab.async false
set_option linter.all false
set_option maxRecDepth 100000
set_option maxHeartbeats 0
namespace Wg
theorem leftB_len (b : Brd) (p : Bool) (v : List (Option Nat)) : (leftB b p v).length = b.length := by simp [leftB]
theorem leftB_spot {b : Brd} {p : Bool} {v : List (Option Nat)} {s : Nat} (hs : s < b.length) : spot (leftB b p v) s = ((spot b s).1, if (spot b s).1 = p then [(vec v s).getD 0] else (spot b s).2) := by
  show (leftB b p v).getD s (true, []) = _
  unfold leftB
  rw [List.getD, List.getElem?_map, List.getElem?_range hs]; rfl
theorem leftB_edge {b : Brd} {p : Bool} {v : List (Option Nat)} (h : StrOk b p v) {s t : Nat} (e : bE (leftB b p v) s t) : s < b.length ∧ t ∈ (spot b s).2 ∧ ((spot b s).1 = p → vec v s = some t) := by
  obtain ⟨h1, h2⟩ := e
  rw [leftB_len] at h1
  rw [leftB_spot h1] at h2
  by_cases ho : (spot b s).1 = p
  · rw [if_pos ho] at h2
    obtain ⟨w, e, hw⟩ := h.mine s h1 ho
    have : t = w := by rw [e] at h2; simpa using h2
    subst this
    exact ⟨h1, hw, fun _ => e⟩
  · rw [if_neg ho] at h2
    exact ⟨h1, h2, fun z => (ho z).elim⟩
theorem leftB_NB {b : Brd} {p : Bool} {v : List (Option Nat)} (hB : NB b) (h : StrOk b p v) : NB (leftB b p v) := by
  refine ⟨by rw [leftB_len]; exact hB.small, fun s hs w hw => ?_, fun s hs => ?_⟩
  · obtain ⟨h1, h2, _⟩ := leftB_edge h ⟨hs, hw⟩
    rw [leftB_len]
    exact hB.lt s h1 w h2
  · rw [leftB_len] at hs
    rw [leftB_spot hs]
    simp only
    split
    · simp
    · exact hB.nd s hs
theorem holds_ok {P : Prog} (hL : HasL P) (hT : HasN P) (hC : HasC P) (h81 : P.fns 81 = some f_holds_levels) {n : Nat} {b : Brd} (hB : NB b) {p : Bool} {v : List (Option Nat)} (h : StrOk b p v) {lv : List Nat} (hlv : lv.length = b.length) {s : Nat} (hs : s < b.length)
    (no : ∀ u, (u = s ∨ ∃ m, MP.Wlk (bE (leftB b p v)) (fun s => lv.getD s 0) s u m) → ∀ m, MP.Wlk (bE (leftB b p v)) (fun s => lv.getD s 0) u u m → m % 2 = pN p) {Q : D → Prop} (q : Q (.bl true)) :
    run P (n + 5) 81 [bD b, pD p, vD v, .tup (nD lv), .int (s : Int)] Q := by
  refine run_of h81 (by decide) ?_
  have hNB := leftB_NB hB h
  (refine wF_at [.sh _, .sh _, .sh _, .sh _, .sh _, .un] rfl (by decide) rfl ?_)
  ((repeat ((conv => whnf); refine And.intro (by first | exact trivial | exact rfl | omega | assumption | decide | exact pls_nD _ _ | exact keysOk_kv _ _ _) ?_)); (conv => whnf))
  refine left_by_ok hC h ?_
  (try simp only [List.set_cons_succ, List.set_cons_zero, freezeI, wipeE, backE, freeze, freezes, behind, List.getElem?_cons_succ, List.getElem?_cons_zero, Slot.val, Option.getD_some, ite_self])
  ((repeat ((conv => whnf); refine And.intro (by first | exact trivial | exact rfl | omega | assumption | decide | exact pls_nD _ _ | exact keysOk_kv _ _ _) ?_)); (conv => whnf))
  refine run_of hT.h183 (by decide) (reached_ok _ hNB (fun s => lv.getD s 0) (start := s) (by rw [leftB_len]; exact hs) fun X hX hre => ?_)
  (try simp only [List.set_cons_succ, List.set_cons_zero, freezeI, wipeE, backE, freeze, freezes, behind, List.getElem?_cons_succ, List.getElem?_cons_zero, Slot.val, Option.getD_some, ite_self])
  ((repeat ((conv => whnf); refine And.intro (by first | exact trivial | exact rfl | omega | assumption | decide | exact pls_nD _ _ | exact keysOk_kv _ _ _) ?_)); (conv => whnf))
  rw [one_sub, pD_nI]
  refine ring_run (n := n + 2) (odd := pN (!p)) hL hT hNB (by rw [leftB_len]; exact hlv) hX (fun u hu m w => ?_) ?_
  · have := no u (hre u hu) m w
    rw [this]
    cases p <;> exact nofun
  (try simp only [List.set_cons_succ, List.set_cons_zero, freezeI, wipeE, backE, freeze, freezes, behind, List.getElem?_cons_succ, List.getElem?_cons_zero, Slot.val, Option.getD_some, ite_self])
  ((repeat ((conv => whnf); refine And.intro (by first | exact trivial | exact rfl | omega | assumption | decide | exact pls_nD _ _ | exact keysOk_kv _ _ _) ?_)); (conv => whnf))
  exact q
def makerW : List Nat := [109, 97, 107, 101, 114]
def spoilerW : List Nat := [115, 112, 111, 105, 108, 101, 114]
theorem check_maker_ok {P : Prog} (hL : HasL P) (hT : HasN P) (hC : HasC P) (h81 : P.fns 81 = some f_holds_levels) (h57 : P.fns 57 = some f_check_levels) {n : Nat} {b : Brd} (hB : NB b) {v : List (Option Nat)} (h : StrOk b true v) {lv : List Nat} (hlv : lv.length = b.length) {s : Nat} (hs : s < b.length)
    (no : ∀ u, (u = s ∨ ∃ m, MP.Wlk (bE (leftB b true v)) (fun s => lv.getD s 0) s u m) → ∀ m, MP.Wlk (bE (leftB b true v)) (fun s => lv.getD s 0) u u m → m % 2 = 0) {Q : D → Prop} (q : Q (.bl true)) :
    run P (n + 6) 57 [bD b, .tup (nD lv), .int (s : Int), .tup [.str makerW, vD v]] Q := by
  refine run_of h57 (by decide) ?_
  (refine wF_at [.sh _, .sh _, .sh _, .sh _, .un, .un] rfl (by decide) rfl ?_)
  ((repeat ((conv => whnf); refine And.intro (by first | exact trivial | exact rfl | omega | assumption | decide | exact pls_nD _ _ | exact keysOk_kv _ _ _) ?_)); (conv => whnf))
  refine named_ok hT (by decide) (by decide) ?_
  (try simp only [List.set_cons_succ, List.set_cons_zero, freezeI, wipeE, backE, freeze, freezes, behind, List.getElem?_cons_succ, List.getElem?_cons_zero, Slot.val, Option.getD_some, ite_self])
  ((repeat ((conv => whnf); refine And.intro (by first | exact trivial | exact rfl | omega | assumption | decide | exact pls_nD _ _ | exact keysOk_kv _ _ _) ?_)); (conv => whnf))
  refine is_strategy_ok hC h ?_
  (try simp only [List.set_cons_succ, List.set_cons_zero, freezeI, wipeE, backE, freeze, freezes, behind, List.getElem?_cons_succ, List.getElem?_cons_zero, Slot.val, Option.getD_some, ite_self])
  ((repeat ((conv => whnf); refine And.intro (by first | exact trivial | exact rfl | omega | assumption | decide | exact pls_nD _ _ | exact keysOk_kv _ _ _) ?_)); (conv => whnf))
  refine holds_ok hL hT hC h81 (p := true) hB h hlv hs no ?_
  (try simp only [List.set_cons_succ, List.set_cons_zero, freezeI, wipeE, backE, freeze, freezes, behind, List.getElem?_cons_succ, List.getElem?_cons_zero, Slot.val, Option.getD_some, ite_self])
  ((repeat ((conv => whnf); refine And.intro (by first | exact trivial | exact rfl | omega | assumption | decide | exact pls_nD _ _ | exact keysOk_kv _ _ _) ?_)); (conv => whnf))
  exact q
theorem check_spoiler_ok {P : Prog} (hL : HasL P) (hT : HasN P) (hC : HasC P) (h81 : P.fns 81 = some f_holds_levels) (h57 : P.fns 57 = some f_check_levels) {n : Nat} {b : Brd} (hB : NB b) {v : List (Option Nat)} (h : StrOk b false v) {lv : List Nat} (hlv : lv.length = b.length) {s : Nat} (hs : s < b.length)
    (no : ∀ u, (u = s ∨ ∃ m, MP.Wlk (bE (leftB b false v)) (fun s => lv.getD s 0) s u m) → ∀ m, MP.Wlk (bE (leftB b false v)) (fun s => lv.getD s 0) u u m → m % 2 = 1) {Q : D → Prop} (q : Q (.bl true)) :
    run P (n + 6) 57 [bD b, .tup (nD lv), .int (s : Int), .tup [.str spoilerW, vD v]] Q := by
  refine run_of h57 (by decide) ?_
  (refine wF_at [.sh _, .sh _, .sh _, .sh _, .un, .un] rfl (by decide) rfl ?_)
  ((repeat ((conv => whnf); refine And.intro (by first | exact trivial | exact rfl | omega | assumption | decide | exact pls_nD _ _ | exact keysOk_kv _ _ _) ?_)); (conv => whnf))
  refine named_ok hT (by decide) (by decide) ?_
  (try simp only [List.set_cons_succ, List.set_cons_zero, freezeI, wipeE, backE, freeze, freezes, behind, List.getElem?_cons_succ, List.getElem?_cons_zero, Slot.val, Option.getD_some, ite_self])
  ((repeat ((conv => whnf); refine And.intro (by first | exact trivial | exact rfl | omega | assumption | decide | exact pls_nD _ _ | exact keysOk_kv _ _ _) ?_)); (conv => whnf))
  refine named_ok hT (by decide) (by decide) ?_
  (try simp only [List.set_cons_succ, List.set_cons_zero, freezeI, wipeE, backE, freeze, freezes, behind, List.getElem?_cons_succ, List.getElem?_cons_zero, Slot.val, Option.getD_some, ite_self])
  ((repeat ((conv => whnf); refine And.intro (by first | exact trivial | exact rfl | omega | assumption | decide | exact pls_nD _ _ | exact keysOk_kv _ _ _) ?_)); (conv => whnf))
  refine is_strategy_ok hC h ?_
  (try simp only [List.set_cons_succ, List.set_cons_zero, freezeI, wipeE, backE, freeze, freezes, behind, List.getElem?_cons_succ, List.getElem?_cons_zero, Slot.val, Option.getD_some, ite_self])
  ((repeat ((conv => whnf); refine And.intro (by first | exact trivial | exact rfl | omega | assumption | decide | exact pls_nD _ _ | exact keysOk_kv _ _ _) ?_)); (conv => whnf))
  refine holds_ok hL hT hC h81 (p := false) hB h hlv hs no ?_
  (try simp only [List.set_cons_succ, List.set_cons_zero, freezeI, wipeE, backE, freeze, freezes, behind, List.getElem?_cons_succ, List.getElem?_cons_zero, Slot.val, Option.getD_some, ite_self])
  ((repeat ((conv => whnf); refine And.intro (by first | exact trivial | exact rfl | omega | assumption | decide | exact pls_nD _ _ | exact keysOk_kv _ _ _) ?_)); (conv => whnf))
  exact q
end Wg
set_option Elab.async false
set_option linter.all false
set_option maxRecDepth 100000
set_option maxHeartbeats 1000000
namespace MP
section
variable {g : G} {X W : St} {p : Bool} {σ : Sg} {E : Nat → Nat → Prop} {lev : Nat → Nat} {s t m : Nat}
/-- a walk whose steps are those of a won set -/
theorem Wlk.stayW (hW : Win g X p W σ) (h : ∀ a b, E a b → W a → Ed g p X W σ a b ∧ g.lev a = lev a) (w : Wlk E lev s t m) (hs : W s) : Wlk (Ed g p X W σ) g.lev s t m ∧ W t := by
  induction w with
  | one e =>
    obtain ⟨e1, hl⟩ := h _ _ e hs
    rw [← hl]
    exact ⟨.one e1, Ed.win hW e1⟩
  | cons e w ih =>
    obtain ⟨e1, hl⟩ := h _ _ e hs
    obtain ⟨w2, ht⟩ := ih (Ed.win hW e1)
    rw [← hl]
    exact ⟨.cons e1 w2, ht⟩
end
end MP
namespace Wg
/-- a strategy by the ways of a solution: its rings are p's -/
theorem sol_left {b : Brd} (hb : GB b) {lv : List Nat} {o c : Dk Nat} (hS : Sol b lv (onL (List.range b.length)) o c) {p : Bool} {v : List (Option Nat)} (e : ∀ s, s < b.length → (spot b s).1 = p → vec v s = some (stW b o c s)) {s : Nat} (hs : wonBy o p s) :
    ∀ u, (u = s ∨ ∃ m, MP.Wlk (bE (leftB b p v)) (fun s => lv.getD s 0) s u m) → ∀ m, MP.Wlk (bE (leftB b p v)) (fun s => lv.getD s 0) u u m → m % 2 = pN p := by
  have step : ∀ a d, bE (leftB b p v) a d → wonBy o p a → MP.Ed (gB b lv) p (onL (List.range b.length)) (wonBy o p) (getN c) a d ∧ (gB b lv).lev a = lv.getD a 0 := fun a d h hw => by
    obtain ⟨h1, h2⟩ := h
    rw [leftB_len] at h1
    rw [leftB_spot h1] at h2
    refine ⟨?_, rfl⟩
    by_cases ho : (spot b a).1 = p
    · rw [show (((spot b a).1, if (spot b a).1 = p then [(vec v a).getD 0] else (spot b a).2) : Bool × List Nat).2 = [(vec v a).getD 0] from if_pos ho, List.mem_singleton, e a h1 ho] at h2
      have h2 : d = stW b o c a := h2
      have hm := stW_mem hb hS h1
      refine ⟨hw, by rw [h2]; exact hm, List.mem_range.mpr (by rw [h2]; exact (toB b hb).lt _ h1 _ hm), fun _ => ?_⟩
      rw [h2]
      exact stW_win hS (by rw [ho]; exact hw)
    · rw [show (((spot b a).1, if (spot b a).1 = p then [(vec v a).getD 0] else (spot b a).2) : Bool × List Nat).2 = (spot b a).2 from if_neg ho] at h2
      exact ⟨hw, h2, List.mem_range.mpr ((toB b hb).lt _ h1 _ h2), fun z => (ho z).elim⟩
  intro u hu m w
  have hw : wonBy o p u := by
    rcases hu with rfl | ⟨m', w'⟩
    · exact hs
    · exact (w'.stayW (hS.win p) step hs).2
  have := (hS.win p).ring u m (w.stayW (hS.win p) step hw).1
  rcases Nat.mod_two_eq_zero_or_one m with z | z
  · rw [z] at this ⊢
    rw [← this]; rfl
  · rw [z] at this ⊢
    rw [← this]; rfl
section
variable {T : Tk}
/-- the strategy of a responder -/
def respV (T : Tk) (R : List (List Nat)) : List (Option Nat) := List.replicate T.sts.length none ++ (List.range T.sts.length).flatMap fun k => (List.range T.ins).map fun x => some (T.cell k x ((R.getD k []).getD x 0))
def refV (T : Tk) (C : List Nat) : List (Option Nat) := ((List.range T.sts.length).map fun k => some (T.sts.length + k * T.ins + C.getD k 0)) ++ List.replicate (T.sts.length * T.ins) none
theorem respV_len (T : Tk) (R : List (List Nat)) : (respV T R).length = T.sts.length + T.sts.length * T.ins := by
  unfold respV
  rw [List.length_append, List.length_replicate, flat_len _ T.ins _ (fun a _ => by simp), List.length_range]
theorem refV_len (T : Tk) (C : List Nat) : (refV T C).length = T.sts.length + T.sts.length * T.ins := by simp [refV]
theorem respV_out {R : List (List Nat)} {k : Nat} (hk : k < T.sts.length) : vec (respV T R) k = none := by
  unfold vec respV
  rw [List.getD, List.getElem?_append_left (by simpa using hk)]
  simp [hk]
theorem respV_inn {R : List (List Nat)} {k c : Nat} (hk : k < T.sts.length) (hc : c < T.ins) : vec (respV T R) (T.sts.length + k * T.ins + c) = some (T.cell k c ((R.getD k []).getD c 0)) := by
  unfold vec respV
  rw [List.getD, List.getElem?_append_right (by simp; omega), List.length_replicate]
  rw [show T.sts.length + k * T.ins + c - T.sts.length = k * T.ins + c by omega, flat_get _ T.ins _ k c (fun a _ => by simp) hc]
  simp [hk, hc]
theorem refV_out {C : List Nat} {k : Nat} (hk : k < T.sts.length) : vec (refV T C) k = some (T.sts.length + k * T.ins + C.getD k 0) := by
  unfold vec refV
  rw [List.getD, List.getElem?_append_left (by simpa using hk)]
  simp [hk]
theorem refV_inn {C : List Nat} {s : Nat} (hs : T.sts.length ≤ s) : vec (refV T C) s = none := by
  unfold vec refV
  rw [List.getD, List.getElem?_append_right (by simpa using hs)]
  by_cases c : s - T.sts.length < T.sts.length * T.ins
  · simp [c]
  · rw [List.getElem?_eq_none (by simp; omega)]
    rfl
theorem respV_str (hG : GT T) {R : List (List Nat)} (hR : ROk T R) : StrOk (TB T) true (respV T R) := by
  refine ⟨by rw [respV_len, TB_len hG], fun s hs ho => ?_, fun s hs ho => ?_⟩
  · rcases TB_spot hG hs with h | ⟨k, c, hk, hc, rfl⟩
    · rw [TB_out h] at ho
      exact nomatch ho
    · refine ⟨_, respV_inn hk hc, ?_⟩
      rw [TB_inn hG hk hc]
      exact mem_sset.mpr (List.mem_of_getElem? (hG.cell_get hk hc (hR.out hk hc)))
  · rcases TB_spot hG hs with h | ⟨k, c, hk, hc, rfl⟩
    · exact respV_out h
    · rw [TB_inn hG hk hc] at ho
      exact (ho rfl).elim
theorem refV_str (hG : GT T) {C : List Nat} (hC : RefOk T C) : StrOk (TB T) false (refV T C) := by
  refine ⟨by rw [refV_len, TB_len hG], fun s hs ho => ?_, fun s hs ho => ?_⟩
  · rcases TB_spot hG hs with h | ⟨k, c, hk, hc, rfl⟩
    · refine ⟨_, refV_out h, ?_⟩
      rw [TB_out h]
      refine List.mem_map.mpr ⟨C.getD s 0, List.mem_range.mpr (hC.lt _ ?_), rfl⟩
      have : s < C.length := by rw [hC.len]; exact h
      rw [List.getD, List.getElem?_eq_getElem this]
      exact List.getElem_mem this
    · rw [TB_inn hG hk hc] at ho
      exact nomatch ho
  · rcases TB_spot hG hs with h | ⟨k, c, hk, hc, rfl⟩
    · rw [TB_out h] at ho
      exact (ho rfl).elim
    · exact refV_inn (by omega)
theorem TB_nb (hG : GT T) : NB (TB T) := by
  have hb := TB_gb hG
  refine ⟨hb.small, fun s hs w hw => (toB _ hb).lt s hs w hw, fun s hs => ?_⟩
  rcases TB_spot hG hs with h | ⟨k, c, hk, hc, rfl⟩
  · rw [TB_out h]
    refine List.pairwise_map.mpr (List.Pairwise.imp ?_ List.nodup_range)
    intro a b h z
    exact h (by omega)
  · rw [TB_inn hG hk hc]
    exact sset_nd _
/-- no odd ring is left by a responder's strategy -/
theorem respV_rings (hG : GT T) {R : List (List Nat)} (h : RespBy T R) : ∀ u, (u = 0 ∨ ∃ m, MP.Wlk (bE (leftB (TB T) true (respV T R))) (fun s => (lvT T).getD s 0) 0 u m) → ∀ m, MP.Wlk (bE (leftB (TB T) true (respV T R))) (fun s => (lvT T).getD s 0) u u m → m % 2 = 0 := by
  obtain ⟨o, c, hS, h0, e⟩ := h
  refine sol_left (TB_gb hG) hS (p := true) (fun s hs ho => ?_) h0
  rcases TB_spot hG hs with h | ⟨k, c, hk, hc, rfl⟩
  · rw [TB_out h] at ho
    exact nomatch ho
  · rw [respV_inn hk hc, e k c hk hc]
theorem refV_rings (hG : GT T) {C : List Nat} (h : RefBy T C) : ∀ u, (u = 0 ∨ ∃ m, MP.Wlk (bE (leftB (TB T) false (refV T C))) (fun s => (lvT T).getD s 0) 0 u m) → ∀ m, MP.Wlk (bE (leftB (TB T) false (refV T C))) (fun s => (lvT T).getD s 0) u u m → m % 2 = 1 := by
  obtain ⟨o, c, hS, h0, e⟩ := h
  refine sol_left (TB_gb hG) hS (p := false) (fun s hs ho => ?_) h0
  rcases TB_spot hG hs with h | ⟨k, c, hk, hc, rfl⟩
  · rw [refV_out h, (e s h).2]
  · rw [TB_inn hG hk hc] at ho
    exact nomatch ho
/-- the state after i answers -/
def seen (T : Tk) (R : List (List Nat)) (cs : List Nat) : Nat → Nat
  | 0 => 0
  | i + 1 => T.cell (seen T R cs i) (cs.getD (i % 3) 0) ((R.getD (seen T R cs i) []).getD (cs.getD (i % 3) 0) 0)
theorem seen_lt (hG : GT T) {R : List (List Nat)} (hR : ROk T R) {cs : List Nat} (hc : ∀ i, cs.getD (i % 3) 0 < T.ins) : ∀ i, seen T R cs i < T.sts.length
  | 0 => hG.s1
  | i + 1 => hG.cell_lt (seen_lt hG hR hc i) (hc i) (hR.out (seen_lt hG hR hc i) (hc i))
theorem seen_step (hG : GT T) {R : List (List Nat)} (hR : ROk T R) {cs : List Nat} (hc : ∀ i, cs.getD (i % 3) 0 < T.ins) (i : Nat) : respE T R (seen T R cs i) (seen T R cs (i + 1)) := ⟨seen_lt hG hR hc i, _, hc i, rfl⟩
theorem seen_walk (hG : GT T) {R : List (List Nat)} (hR : ROk T R) {cs : List Nat} (hc : ∀ i, cs.getD (i % 3) 0 < T.ins) (i : Nat) : ∀ d, ∃ m, MP.Wlk (respE T R) T.lev (seen T R cs i) (seen T R cs (i + d + 1)) m ∧ m = ((List.range (d + 1)).map fun j => T.lev (seen T R cs (i + j))).foldl max 0
  | 0 => ⟨_, .one (seen_step hG hR hc i), by simp⟩
  | d + 1 => by
    obtain ⟨m, w, e⟩ := seen_walk hG hR hc i d
    refine ⟨_, w.trans (.one (seen_step hG hR hc (i + d + 1))), ?_⟩
    rw [List.range_succ, List.map_append, List.foldl_append, ← e]
    rfl
theorem seen_rch (hG : GT T) {R : List (List Nat)} (hR : ROk T R) {cs : List Nat} (hc : ∀ i, cs.getD (i % 3) 0 < T.ins) : ∀ i, MP.Rch (respE T R) T.lev (seen T R cs i)
  | 0 => .inl rfl
  | i + 1 => by
    obtain ⟨m, w, _⟩ := seen_walk hG hR hc 0 i
    rw [Nat.zero_add] at w
    exact .inr ⟨m, w⟩
theorem seen_even (hG : GT T) {R : List (List Nat)} (h : RespOk T R) {cs : List Nat} (hc : ∀ i, cs.getD (i % 3) 0 < T.ins) {i d : Nat} (hd : 0 < d) (e : seen T R cs (i + d) = seen T R cs i) : (((List.range d).map fun j => T.lev (seen T R cs (i + j))).foldl max 0) % 2 = 0 := by
  obtain ⟨d, rfl⟩ : ∃ d', d = d' + 1 := ⟨d - 1, by omega⟩
  obtain ⟨m, w, em⟩ := seen_walk hG h.rok hc i d
  rw [show i + d + 1 = i + (d + 1) from rfl, e] at w
  rw [← em]
  exact h.rings _ m (seen_rch hG h.rok hc i) w
end
end Wg
set_option Elab.async false
set_option linter.all false
set_option maxRecDepth 100000
set_option maxHeartbeats 4000000
namespace Wg
structure HasB (P : Prog) : Prop where
  h95 : P.fns 95 = some f_is_places
  h86 : P.fns 86 = some f_is_board
  h230 : P.fns 230 = some f_winners
  h44 : P.fns 44 = some f_answers_to
  g402 : P.G 402 = some (.int 8)
  g182 : P.G 182 = some (.fn 182 [])
  g106 : P.G 106 = some (.fn 106 [])
  g38 : P.G 38 = some (.fn 38 [])
  g50 : P.G 50 = some (.fn 50 [])
  g148 : P.G 148 = some (.fn 148 [])
  g41 : P.G 41 = some (.fn 41 [])
  g83 : P.G 83 = some (.fn 83 [])
  g45 : P.G 45 = some (.fn 45 [])
  g216 : P.G 216 = some (.fn 216 [])
theorem places_ok {P : Prog} (hT : HasN P) (hB : HasB P) {n : Nat} {l : List Nat} {many : Nat} (hs : l.Pairwise (· < ·)) (hlt : ∀ x ∈ l, x < many) (hl : l.length ≤ 1000) {Q : D → Prop} (q : Q (.bl true)) :
    run P (n + 2) 95 [.tup (nD l), .int (many : Int)] Q := by
  refine run_of hB.h95 (by decide) ?_
  have hnl := nD_len l
  (refine wF_at [.sh _, .sh _, .un, .un] rfl (by decide) rfl ?_)
  ((repeat ((conv => whnf); refine And.intro (by first | exact trivial | exact rfl | omega | assumption | decide | exact pls_nD _ _ | exact keysOk_kv _ _ _) ?_)); (conv => whnf))
  refine lcW_onMap (fun (n : Nat) => D.int (n : Int)) (fun _ => .bl true) l (fun x hx K hK => ?_) ?_
  · have hlt := hlt x hx
    ((repeat ((conv => whnf); refine And.intro (by first | exact trivial | exact rfl | omega | assumption | decide | exact pls_nD _ _ | exact keysOk_kv _ _ _) ?_)); (conv => whnf))
    refine whole_ok hT ?_
    (try simp only [List.set_cons_succ, List.set_cons_zero, freezeI, wipeE, backE, freeze, freezes, behind, List.getElem?_cons_succ, List.getElem?_cons_zero, Slot.val, Option.getD_some, ite_self])
    ((repeat ((conv => whnf); refine And.intro (by first | exact trivial | exact rfl | omega | assumption | decide | exact pls_nD _ _ | exact keysOk_kv _ _ _) ?_)); (conv => whnf))
    have : D.lt (.int (x : Int)) (.int (many : Int)) = true := by rw [lt_nat]; exact decide_eq_true hlt
    rw [this]
    exact hK
  (try simp only [List.set_cons_succ, List.set_cons_zero, freezeI, wipeE, backE, freeze, freezes, behind, List.getElem?_cons_succ, List.getElem?_cons_zero, Slot.val, Option.getD_some, ite_self])
  ((repeat ((conv => whnf); refine And.intro (by first | exact trivial | exact rfl | omega | assumption | decide | exact pls_nD _ _ | exact keysOk_kv _ _ _) ?_)); (conv => whnf))
  refine blsL_all fun bs hbs => ?_
  (try simp only [List.set_cons_succ, List.set_cons_zero, freezeI, wipeE, backE, freeze, freezes, behind, List.getElem?_cons_succ, List.getElem?_cons_zero, Slot.val, Option.getD_some, ite_self])
  ((repeat ((conv => whnf); refine And.intro (by first | exact trivial | exact rfl | omega | assumption | decide | exact pls_nD _ _ | exact keysOk_kv _ _ _) ?_)); (conv => whnf))
  rw [hbs]
  ((repeat ((conv => whnf); refine And.intro (by first | exact trivial | exact rfl | omega | assumption | decide | exact pls_nD _ _ | exact keysOk_kv _ _ _) ?_)); (conv => whnf))
  rw [hnl]
  have er : rangeD 0 ((l.length : Int) - 1) = nD (List.range (l.length - 1)) := by
    unfold rangeD nD
    rw [show ((l.length : Int) - 1 - 0).toNat = l.length - 1 by omega]
    refine List.map_congr_left fun k _ => ?_
    rw [Int.zero_add]
  refine And.intro (by unfold LB; omega) (And.intro (by omega) ?_)
  rw [er]
  refine lcW_onMap (fun (n : Nat) => D.int (n : Int)) (fun _ => .bl true) (List.range (l.length - 1)) (fun k hk K hK => ?_) ?_
  · have hk := List.mem_range.mp hk
    have h1 : k < l.length := by omega
    have h2 : k + 1 < l.length := by omega
    ((repeat ((conv => whnf); refine And.intro (by first | exact trivial | exact rfl | omega | assumption | decide | exact pls_nD _ _ | exact keysOk_kv _ _ _) ?_)); (conv => whnf))
    refine idxL_nat (nD_get (List.getElem?_eq_getElem h1)) ?_
    ((repeat ((conv => whnf); refine And.intro (by first | exact trivial | exact rfl | omega | assumption | decide | exact pls_nD _ _ | exact keysOk_kv _ _ _) ?_)); (conv => whnf))
    have ek : (k : Int) + 1 = ((k + 1 : Nat) : Int) := by omega
    rw [ek]
    refine idxL_nat (nD_get (List.getElem?_eq_getElem h2)) ?_
    ((repeat ((conv => whnf); refine And.intro (by first | exact trivial | exact rfl | omega | assumption | decide | exact pls_nD _ _ | exact keysOk_kv _ _ _) ?_)); (conv => whnf))
    have : D.lt (.int ((l[k] : Nat) : Int)) (.int ((l[k + 1] : Nat) : Int)) = true := by
      rw [lt_nat]
      exact decide_eq_true (List.pairwise_iff_getElem.mp hs k (k + 1) h1 h2 (by omega))
    rw [← this] at hK
    exact hK
  (try simp only [List.set_cons_succ, List.set_cons_zero, freezeI, wipeE, backE, freeze, freezes, behind, List.getElem?_cons_succ, List.getElem?_cons_zero, Slot.val, Option.getD_some, ite_self])
  ((repeat ((conv => whnf); refine And.intro (by first | exact trivial | exact rfl | omega | assumption | decide | exact pls_nD _ _ | exact keysOk_kv _ _ _) ?_)); (conv => whnf))
  refine blsL_all fun bs hbs => ?_
  (try simp only [List.set_cons_succ, List.set_cons_zero, freezeI, wipeE, backE, freeze, freezes, behind, List.getElem?_cons_succ, List.getElem?_cons_zero, Slot.val, Option.getD_some, ite_self])
  ((repeat ((conv => whnf); refine And.intro (by first | exact trivial | exact rfl | omega | assumption | decide | exact pls_nD _ _ | exact keysOk_kv _ _ _) ?_)); (conv => whnf))
  rw [hbs]
  exact q
theorem is_board_ok {P : Prog} (hT : HasN P) (hB : HasB P) {n : Nat} {b : Brd} (h1 : 1 ≤ b.length) (h8 : b.length ≤ 8) (hne : ∀ p ∈ b, p.2 ≠ []) (hs : ∀ p ∈ b, p.2.Pairwise (· < ·)) (hlt : ∀ p ∈ b, ∀ x ∈ p.2, x < b.length) (hfew : ∀ p ∈ b, p.2.length ≤ 1000) {Q : D → Prop} (q : Q (.bl true)) :
    run P (n + 3) 86 [bD b] Q := by
  refine run_of hB.h86 (by decide) ?_
  have hl : (b.map spD).length = b.length := List.length_map ..
  (refine wF_at [.sh _, .un] rfl (by decide) rfl ?_)
  ((repeat ((conv => whnf); refine And.intro (by first | exact trivial | exact rfl | omega | assumption | decide | exact pls_nD _ _ | exact keysOk_kv _ _ _) ?_)); (conv => whnf))
  rw [hl]
  refine bif_by (fun _ => ?_) (fun h => absurd (not_le_F (a := 1) (b := b.length) h) (by omega))
  ((repeat ((conv => whnf); refine And.intro (by first | exact trivial | exact rfl | omega | assumption | decide | exact pls_nD _ _ | exact keysOk_kv _ _ _) ?_)); (conv => whnf))
  rw [show (⟨P.G, run P (n + 2)⟩ : Ctx).G 402 = some (.int 8) from hB.g402]
  ((repeat ((conv => whnf); refine And.intro (by first | exact trivial | exact rfl | omega | assumption | decide | exact pls_nD _ _ | exact keysOk_kv _ _ _) ?_)); (conv => whnf))
  refine bif_by (fun h => absurd (not_le_F (a := b.length) (b := 8) (not_T h)) (by omega)) (fun _ => ?_)
  ((repeat ((conv => whnf); refine And.intro (by first | exact trivial | exact rfl | omega | assumption | decide | exact pls_nD _ _ | exact keysOk_kv _ _ _) ?_)); (conv => whnf))
  refine foW_inv (I := fun i ρ => ∃ (s1 : Slot), ρ = [.sh (bD b), s1]) ⟨_, rfl⟩ ?_ ?_
  · rintro i d ρ K hd ⟨s1, rfl⟩ hK
    obtain ⟨p, hp, rfl⟩ := List.mem_map.mp (List.mem_of_getElem? hd)
    have hpl := nD_len p.2
    ((repeat ((conv => whnf); refine And.intro (by first | exact trivial | exact rfl | omega | assumption | decide | exact pls_nD _ _ | exact keysOk_kv _ _ _) ?_)); (conv => whnf))
    refine whole_ok hT ?_
    (try simp only [List.set_cons_succ, List.set_cons_zero, freezeI, wipeE, backE, freeze, freezes, behind, List.getElem?_cons_succ, List.getElem?_cons_zero, Slot.val, Option.getD_some, ite_self])
    ((repeat ((conv => whnf); refine And.intro (by first | exact trivial | exact rfl | omega | assumption | decide | exact pls_nD _ _ | exact keysOk_kv _ _ _) ?_)); (conv => whnf))
    have e01 : (!([D.int 0, D.int 1].any fun z => z.eqv (.int (if p.1 = true then 0 else 1)))) = false := by cases p.1 <;> rfl
    refine bif_by (fun h => absurd (h.symm.trans e01) nofun) (fun _ => ?_)
    ((repeat ((conv => whnf); refine And.intro (by first | exact trivial | exact rfl | omega | assumption | decide | exact pls_nD _ _ | exact keysOk_kv _ _ _) ?_)); (conv => whnf))
    rw [hl]
    refine places_ok hT hB (hs p hp) (hlt p hp) (hfew p hp) ?_
    (try simp only [List.set_cons_succ, List.set_cons_zero, freezeI, wipeE, backE, freeze, freezes, behind, List.getElem?_cons_succ, List.getElem?_cons_zero, Slot.val, Option.getD_some, ite_self])
    ((repeat ((conv => whnf); refine And.intro (by first | exact trivial | exact rfl | omega | assumption | decide | exact pls_nD _ _ | exact keysOk_kv _ _ _) ?_)); (conv => whnf))
    rw [hpl]
    refine bif_by (fun h => absurd (eqv_natT (b := 0) h) (fun z => hne p hp (List.length_eq_zero_iff.mp z))) (fun _ => ?_)
    ((repeat ((conv => whnf); refine And.intro (by first | exact trivial | exact rfl | omega | assumption | decide | exact pls_nD _ _ | exact keysOk_kv _ _ _) ?_)); (conv => whnf))
    exact hK _ ⟨_, rfl⟩
  · rintro ρ ⟨s1, rfl⟩
    ((repeat ((conv => whnf); refine And.intro (by first | exact trivial | exact rfl | omega | assumption | decide | exact pls_nD _ _ | exact keysOk_kv _ _ _) ?_)); (conv => whnf))
    exact q
theorem winners_levels_ok {P : Prog} (hB : HasB P) {n : Nat} {b lv : D} {Q : D → Prop} (q : run P n 148 [b, lv] Q) : run P (n + 1) 230 [b, .tup [.str [108, 101, 118, 101, 108, 115], lv]] Q := by
  refine run_of hB.h230 (by decide) ?_
  (refine wF_at [.sh _, .sh _, .un, .un, .un] rfl (by decide) rfl ?_)
  ((repeat ((conv => whnf); refine And.intro (by first | exact trivial | exact rfl | omega | assumption | decide | exact pls_nD _ _ | exact keysOk_kv _ _ _) ?_)); (conv => whnf))
  rw [show (⟨P.G, run P n⟩ : Ctx).G 182 = some (.fn 182 []) from hB.g182]
  ((repeat ((conv => whnf); refine And.intro (by first | exact trivial | exact rfl | omega | assumption | decide | exact pls_nD _ _ | exact keysOk_kv _ _ _) ?_)); (conv => whnf))
  rw [show (⟨P.G, run P n⟩ : Ctx).G 106 = some (.fn 106 []) from hB.g106]
  ((repeat ((conv => whnf); refine And.intro (by first | exact trivial | exact rfl | omega | assumption | decide | exact pls_nD _ _ | exact keysOk_kv _ _ _) ?_)); (conv => whnf))
  rw [show (⟨P.G, run P n⟩ : Ctx).G 38 = some (.fn 38 []) from hB.g38]
  ((repeat ((conv => whnf); refine And.intro (by first | exact trivial | exact rfl | omega | assumption | decide | exact pls_nD _ _ | exact keysOk_kv _ _ _) ?_)); (conv => whnf))
  rw [show (⟨P.G, run P n⟩ : Ctx).G 50 = some (.fn 50 []) from hB.g50]
  ((repeat ((conv => whnf); refine And.intro (by first | exact trivial | exact rfl | omega | assumption | decide | exact pls_nD _ _ | exact keysOk_kv _ _ _) ?_)); (conv => whnf))
  rw [show (⟨P.G, run P n⟩ : Ctx).G 148 = some (.fn 148 []) from hB.g148]
  ((repeat ((conv => whnf); refine And.intro (by first | exact trivial | exact rfl | omega | assumption | decide | exact pls_nD _ _ | exact keysOk_kv _ _ _) ?_)); (conv => whnf))
  rw [show (⟨P.G, run P n⟩ : Ctx).G 41 = some (.fn 41 []) from hB.g41]
  ((repeat ((conv => whnf); refine And.intro (by first | exact trivial | exact rfl | omega | assumption | decide | exact pls_nD _ _ | exact keysOk_kv _ _ _) ?_)); (conv => whnf))
  rw [show (⟨P.G, run P n⟩ : Ctx).G 83 = some (.fn 83 []) from hB.g83]
  ((repeat ((conv => whnf); refine And.intro (by first | exact trivial | exact rfl | omega | assumption | decide | exact pls_nD _ _ | exact keysOk_kv _ _ _) ?_)); (conv => whnf))
  rw [show (⟨P.G, run P n⟩ : Ctx).G 45 = some (.fn 45 []) from hB.g45]
  ((repeat ((conv => whnf); refine And.intro (by first | exact trivial | exact rfl | omega | assumption | decide | exact pls_nD _ _ | exact keysOk_kv _ _ _) ?_)); (conv => whnf))
  rw [show (⟨P.G, run P n⟩ : Ctx).G 216 = some (.fn 216 []) from hB.g216]
  ((repeat ((conv => whnf); refine And.intro (by first | exact trivial | exact rfl | omega | assumption | decide | exact pls_nD _ _ | exact keysOk_kv _ _ _) ?_)); (conv => whnf))
  exact q
/-- the answers -/
def ansT (T : Tk) (R : List (List Nat)) (cs : List Nat) (i : Nat) : Nat := (R.getD (seen T R cs i) []).getD (cs.getD (i % 3) 0) 0
theorem answers_ok {P : Prog} (hB : HasB P) {n : Nat} {T : Tk} (hG : GT T) {R : List (List Nat)} (hR : ROk T R) {cs : List Nat} (hc : ∀ i, cs.getD (i % 3) 0 < T.ins) {N : Nat} (hN : N ≤ 1000) {Q : D → Prop} (q : Q (.tup (nD ((List.range N).map (ansT T R cs))))) :
    run P (n + 1) 44 [.tup (R.map rowD), tD T, .tup (nD ((List.range N).map fun i => cs.getD (i % 3) 0))] Q := by
  refine run_of hB.h44 (by decide) ?_
  (refine wF_at [.sh _, .sh _, .sh _, .un, .un, .un, .un] rfl (by decide) rfl ?_)
  ((repeat ((conv => whnf); refine And.intro (by first | exact trivial | exact rfl | omega | assumption | decide | exact pls_nD _ _ | exact keysOk_kv _ _ _) ?_)); (conv => whnf))
  refine foW_inv (I := fun i ρ => i ≤ N ∧ ∃ (s5 s6 : Slot), ρ = [.sh (.tup (R.map rowD)), .sh (tD T), .sh (.tup (nD ((List.range N).map fun i => cs.getD (i % 3) 0))), .ol (nD ((List.range i).map (ansT T R cs))), .sh (.int (seen T R cs i : Nat)), s5, s6]) ⟨Nat.zero_le _, _, _, rfl⟩ ?_ ?_
  · rintro i d ρ K hd ⟨hi, s5, s6, rfl⟩ hK
    have hlt : i < N := by
      have := (List.getElem?_eq_some_iff.mp hd).1
      simpa [nD] using this
    have ed : d = .int (cs.getD (i % 3) 0 : Nat) := by
      have : (nD ((List.range N).map fun i => cs.getD (i % 3) 0))[i]? = some (.int (cs.getD (i % 3) 0 : Nat)) := nD_get (by simp [hlt])
      rw [this] at hd
      exact (Option.some.inj hd).symm
    subst ed
    have hs := seen_lt hG hR hc i
    have hci := hc i
    have eR := hR.get hs
    have eA := hR.get2 hs hci
    have hA := hR.out hs hci
    have eS := GT.st_get hs
    have eW := hG.row_get hs hci
    have eC := hG.cell_get hs hci hA
    have ln : (nD ((List.range i).map (ansT T R cs))).length < LB := by rw [nD_len, List.length_map, List.length_range]; unfold LB; omega
    ((repeat ((conv => whnf); refine And.intro (by first | exact trivial | exact rfl | omega | assumption | decide | exact pls_nD _ _ | exact keysOk_kv _ _ _) ?_)); (conv => whnf))
    refine idxL_nat (d := rowD (R.getD (seen T R cs i) [])) (by rw [List.getElem?_map, eR]; rfl) ?_
    ((repeat ((conv => whnf); refine And.intro (by first | exact trivial | exact rfl | omega | assumption | decide | exact pls_nD _ _ | exact keysOk_kv _ _ _) ?_)); (conv => whnf))
    refine idxL_nat (nD_get eA) ?_
    ((repeat ((conv => whnf); refine And.intro (by first | exact trivial | exact rfl | omega | assumption | decide | exact pls_nD _ _ | exact keysOk_kv _ _ _) ?_)); (conv => whnf))
    refine idxL_nat (d := stD (T.st (seen T R cs i))) (by rw [List.getElem?_map, eS]; rfl) ?_
    ((repeat ((conv => whnf); refine And.intro (by first | exact trivial | exact rfl | omega | assumption | decide | exact pls_nD _ _ | exact keysOk_kv _ _ _) ?_)); (conv => whnf))
    refine idxL_nat (d := rowD (T.row (seen T R cs i) (cs.getD (i % 3) 0))) (by rw [List.getElem?_map, eW]; rfl) ?_
    ((repeat ((conv => whnf); refine And.intro (by first | exact trivial | exact rfl | omega | assumption | decide | exact pls_nD _ _ | exact keysOk_kv _ _ _) ?_)); (conv => whnf))
    refine idxL_nat (nD_get eC) ?_
    ((repeat ((conv => whnf); refine And.intro (by first | exact trivial | exact rfl | omega | assumption | decide | exact pls_nD _ _ | exact keysOk_kv _ _ _) ?_)); (conv => whnf))
    refine hK _ ⟨hlt, .sh (.int (cs.getD (i % 3) 0 : Nat)), .sh (.int (ansT T R cs i : Nat)), ?_⟩
    rw [show nD ((List.range (i + 1)).map (ansT T R cs)) = nD ((List.range i).map (ansT T R cs)) ++ [.int (ansT T R cs i : Nat)] by rw [List.range_succ, List.map_append]; unfold nD; rw [List.map_append]; rfl]
    rfl
  · rintro ρ ⟨hi, s5, s6, rfl⟩
    rw [nD_len, List.length_map, List.length_range]
    ((repeat ((conv => whnf); refine And.intro (by first | exact trivial | exact rfl | omega | assumption | decide | exact pls_nD _ _ | exact keysOk_kv _ _ _) ?_)); (conv => whnf))
    exact q
theorem sset_srt (l : List Nat) : (sset l).Pairwise (· < ·) := by
  unfold sset
  rw [List.pairwise_map]
  refine (sorted_sortSet _).imp_of_mem fun {a b} ha hb h => ?_
  have h1 := sset_pos a ha
  have h2 := sset_pos b hb
  omega
end Wg
set_option Elab.async false
set_option linter.all false
set_option maxRecDepth 100000
set_option maxHeartbeats 0
namespace Wg
theorem pick3 {v a b c : Int} (hv : 0 ≤ v) (hv3 : v < 3) (ha : 0 ≤ a) (ha4 : a < 4) (hb : 0 ≤ b) (hb2 : b < 2) (hc : 0 ≤ c) (hc2 : c < 2) {Q : D → Prop} (q : ∀ many : Nat, 1 ≤ many → many ≤ 4 → (many : Int) * (2 + v) ≤ 8 → Q (.int (many : Int))) :
    idxL [.int (1 + a), .int (1 + b), .int (1 + c)] (1 + v - 1) Q := by
  have q' : ∀ i : Int, 1 ≤ i → i ≤ 4 → i * (2 + v) ≤ 8 → Q (.int i) := fun i h1 h2 h3 => by
    have e : ((i.toNat : Nat) : Int) = i := by omega
    have := q i.toNat (by omega) (by omega) (by rw [e]; exact h3)
    rw [e] at this
    exact this
  rcases show v = 0 ∨ v = 1 ∨ v = 2 by omega with rfl | rfl | rfl
  · exact idxL_nat (k := 0) (d := .int (1 + a)) rfl (q' _ (by omega) (by omega) (by omega))
  · exact idxL_nat (k := 1) (d := .int (1 + b)) rfl (q' _ (by omega) (by omega) (by omega))
  · exact idxL_nat (k := 2) (d := .int (1 + c)) rfl (q' _ (by omega) (by omega) (by omega))
theorem cyc (a b c : Nat) : ∀ r : Nat, (List.replicate r [D.int (a : Int), D.int (b : Int), D.int (c : Int)]).flatten = nD ((List.range (3 * r)).map fun i => [a, b, c].getD (i % 3) 0)
  | 0 => rfl
  | r + 1 => by
    rw [List.replicate_succ', List.flatten_append, cyc a b c r, show 3 * (r + 1) = 3 * r + 1 + 1 + 1 by omega, List.range_succ, List.range_succ, List.range_succ]
    unfold nD
    simp only [List.map_append, List.map_cons, List.map_nil, List.flatten_cons, List.flatten_nil, List.append_nil, List.append_assoc]
    rw [show (3 * r) % 3 = 0 by omega, show (3 * r + 1) % 3 = 1 by omega, show (3 * r + 1 + 1) % 3 = 2 by omega]
    rfl
theorem nons (k : Nat) : (List.replicate k [D.non]).flatten = (List.replicate k (none : Option Nat)).map oD := by
  induction k with
  | zero => rfl
  | succ k ih => rw [List.replicate_succ, List.flatten_cons, ih, List.replicate_succ, List.map_cons]; rfl
theorem ixN_first {l : List Nat} {x j : Nat} (h : l[j]? = some x) : ixN l x ≤ j := by
  have hm : x ∈ l := List.mem_of_getElem? h
  have e := (ixN_of hm).1
  obtain ⟨hi, _, hno⟩ := List.findIdx?_eq_some_iff_getElem.mp e
  refine Nat.le_of_not_lt fun hlt => ?_
  have hj : j < (nD l).length := by omega
  have e2 : (nD l)[j]? = some (.int (x : Int)) := nD_get h
  have e3 : (nD l)[j] = .int (x : Int) := by rw [List.getElem?_eq_getElem hj] at e2; exact Option.some.inj e2
  refine hno j hlt ?_
  rw [e3, eqv_nat]
  exact decide_eq_true rfl
theorem cut_to (L : List D) (k : Nat) (hk : k ≤ L.length) : List.take ((if (k : Int) < 0 then (max ((k : Int) + (L.length : Int)) 0).toNat else (min (k : Int) (L.length : Int)).toNat) - 0) (List.drop 0 L) = L.take k := by
  rw [if_neg (by omega), List.drop_zero]
  congr 1
  omega
theorem cut_at {x : Int} {n i : Nat} (e : x = (i : Int)) (h : i ≤ n) : (if x < 0 then (max (x + (n : Int)) 0).toNat else (min x (n : Int)).toNat) = i := by
  subst e
  rw [if_neg (by omega)]
  omega
theorem take_nD (f : Nat → Nat) (N k : Nat) (hk : k ≤ N) : (nD ((List.range N).map f)).take k = nD ((List.range k).map f) := by
  unfold nD
  rw [← List.map_take, ← List.map_take, List.take_range, Nat.min_eq_left hk]
theorem cut_nD (f : Nat → Nat) (N i k : Nat) (hk : k ≤ N) : ((nD ((List.range N).map f)).drop i).take (k - i) = nD ((List.range (k - i)).map fun j => f (i + j)) := by
  unfold nD
  rw [← List.map_drop, ← List.map_take, ← List.map_drop, ← List.map_take]
  congr 1
  refine List.ext_getElem? fun j => ?_
  by_cases c : j < k - i
  · rw [List.getElem?_map, List.getElem?_map, List.getElem?_take_of_lt c, List.getElem?_drop, List.getElem?_range (by omega), List.getElem?_range c]
    rfl
  · rw [List.getElem?_eq_none (by simp; omega), List.getElem?_eq_none (by simp; omega)]
theorem law52 {P : Prog} (hL : HasL P) (hT : HasTB P) (hC : HasC P) (hB : HasB P) (h81 : P.fns 81 = some f_holds_levels) (h57 : P.fns 57 = some f_check_levels) :
    ∃ rest, f_law_k52 = ⟨24, 1, .c (.asg (.nm 1) (.call 1 (.c (.var 0) .n))) rest⟩ ∧ wSs ⟨P.G, run P 61⟩ rest [.un, .sh .pool, .un, .un, .un, .un, .un, .un, .un, .un, .un, .un, .un, .un, .un, .un, .un, .un, .un, .un, .un, .un, .un, .un] ⟨fun _ => False, fun d _ => d = .bl true, fun _ => False, fun _ => False⟩ := by
  refine ⟨_, rfl, ?_⟩
  ((repeat ((conv => whnf); refine And.intro (by first | exact trivial | exact rfl | omega | assumption | decide | exact pls_nD _ _ | exact keysOk_kv _ _ _) ?_)); (conv => whnf))
  intro v1 ha1 hb1
  (try simp only [List.set_cons_succ, List.set_cons_zero, freezeI, wipeE, backE, freeze, freezes, behind, List.getElem?_cons_succ, List.getElem?_cons_zero, Slot.val, Option.getD_some, ite_self])
  ((repeat ((conv => whnf); refine And.intro (by first | exact trivial | exact rfl | omega | assumption | decide | exact pls_nD _ _ | exact keysOk_kv _ _ _) ?_)); (conv => whnf))
  intro v2 ha2 hb2
  (try simp only [List.set_cons_succ, List.set_cons_zero, freezeI, wipeE, backE, freeze, freezes, behind, List.getElem?_cons_succ, List.getElem?_cons_zero, Slot.val, Option.getD_some, ite_self])
  ((repeat ((conv => whnf); refine And.intro (by first | exact trivial | exact rfl | omega | assumption | decide | exact pls_nD _ _ | exact keysOk_kv _ _ _) ?_)); (conv => whnf))
  intro v3 ha3 hb3
  (try simp only [List.set_cons_succ, List.set_cons_zero, freezeI, wipeE, backE, freeze, freezes, behind, List.getElem?_cons_succ, List.getElem?_cons_zero, Slot.val, Option.getD_some, ite_self])
  ((repeat ((conv => whnf); refine And.intro (by first | exact trivial | exact rfl | omega | assumption | decide | exact pls_nD _ _ | exact keysOk_kv _ _ _) ?_)); (conv => whnf))
  intro v4 ha4 hb4
  (try simp only [List.set_cons_succ, List.set_cons_zero, freezeI, wipeE, backE, freeze, freezes, behind, List.getElem?_cons_succ, List.getElem?_cons_zero, Slot.val, Option.getD_some, ite_self])
  ((repeat ((conv => whnf); refine And.intro (by first | exact trivial | exact rfl | omega | assumption | decide | exact pls_nD _ _ | exact keysOk_kv _ _ _) ?_)); (conv => whnf))
  intro v5 ha5 hb5
  (try simp only [List.set_cons_succ, List.set_cons_zero, freezeI, wipeE, backE, freeze, freezes, behind, List.getElem?_cons_succ, List.getElem?_cons_zero, Slot.val, Option.getD_some, ite_self])
  ((repeat ((conv => whnf); refine And.intro (by first | exact trivial | exact rfl | omega | assumption | decide | exact pls_nD _ _ | exact keysOk_kv _ _ _) ?_)); (conv => whnf))
  refine pick3 ha1 hb1 ha3 hb3 ha4 hb4 ha5 hb5 fun many hm1 hm4 hm8 => ?_
  obtain ⟨ins, eins⟩ : ∃ k : Nat, 1 + v1 = (k : Int) := ⟨(1 + v1).toNat, by omega⟩
  have hins : 1 ≤ ins ∧ ins ≤ 3 := by omega
  obtain ⟨outs, eouts⟩ : ∃ k : Nat, 1 + v2 = (k : Int) := ⟨(1 + v2).toNat, by omega⟩
  have houts : 1 ≤ outs ∧ outs ≤ 3 := by omega
  have hsmall : many * ins + many ≤ 8 := by
    rw [show 2 + v1 = (ins : Int) + 1 by omega, Int.mul_add, Int.mul_one] at hm8
    have e : ((many * ins + many : Nat) : Int) ≤ 8 := by rw [Int.natCast_add, Int.natCast_mul]; exact hm8
    omega
  (try simp only [List.set_cons_succ, List.set_cons_zero, freezeI, wipeE, backE, freeze, freezes, behind, List.getElem?_cons_succ, List.getElem?_cons_zero, Slot.val, Option.getD_some, ite_self])
  ((repeat ((conv => whnf); refine And.intro (by first | exact trivial | exact rfl | omega | assumption | decide | exact pls_nD _ _ | exact keysOk_kv _ _ _) ?_)); (conv => whnf))
  rw [eins, eouts]
  clear eins eouts ha1 hb1 ha2 hb2 ha3 hb3 ha4 hb4 ha5 hb5 hm8 v1 v2 v3 v4 v5
  refine And.intro (by unfold LB; omega) (And.intro (by omega) ?_)
  rw [rangeD_nat]
  refine foW_inv (I := fun i ρ => i ≤ many ∧ ∃ (S : List (Nat × List (List Nat))) (s6 s7 : Slot), (0 < i → ∃ d, s6 = .sh d) ∧ ρ = [.un, .sh .pool, .sh (.int (ins : Int)), .sh (.int (outs : Int)), .sh (.int (many : Int)), .sh (.tup (S.map stD)), s6, s7, .un, .un, .un, .un, .un, .un, .un, .un, .un, .un, .un, .un, .un, .un, .un, .un] ∧
    S.length = i ∧ ∀ p ∈ S, p.1 ≤ 4 ∧ p.2.length = ins ∧ ∀ r ∈ p.2, r.length = outs ∧ ∀ x ∈ r, x < many) ?_ ?_ ?_
  · exact ⟨Nat.zero_le _, [], _, _, fun h => absurd h (by omega), rfl, rfl, fun p h => nomatch h⟩
  · rintro i d ρ K hd ⟨hi, S, s6, s7, h6, rfl, hSl, hS⟩ hK
    have hlt : i < many := by
      have := (List.getElem?_eq_some_iff.mp hd).1
      simpa [nD] using this
    ((repeat ((conv => whnf); refine And.intro (by first | exact trivial | exact rfl | omega | assumption | decide | exact pls_nD _ _ | exact keysOk_kv _ _ _) ?_)); (conv => whnf))
    refine And.intro (by unfold LB; omega) (And.intro (by omega) ?_)
    rw [rangeD_nat]
    refine lcW_obj0 (fun (n : Nat) => D.int (n : Int)) rowD (fun _ (r : List Nat) => r.length = outs ∧ ∀ x ∈ r, x < many) (List.range ins) (fun a ha K hK => ?_) fun tb htb => ?_
    · ((repeat ((conv => whnf); refine And.intro (by first | exact trivial | exact rfl | omega | assumption | decide | exact pls_nD _ _ | exact keysOk_kv _ _ _) ?_)); (conv => whnf))
      refine And.intro (by unfold LB; omega) (And.intro (by omega) ?_)
      rw [rangeD_nat]
      refine lcW_nums0 (fun (n : Nat) => D.int (n : Int)) (fun _ x => x < many) (List.range outs) (fun a ha K hK => ?_) fun r hr => ?_
      · ((repeat ((conv => whnf); refine And.intro (by first | exact trivial | exact rfl | omega | assumption | decide | exact pls_nD _ _ | exact keysOk_kv _ _ _) ?_)); (conv => whnf))
        intro v h1 h2
        have := hK v.toNat (by omega)
        have e : ((v.toNat : Nat) : Int) = v := by omega
        rw [e] at this
        (try simp only [List.set_cons_succ, List.set_cons_zero, freezeI, wipeE, backE, freeze, freezes, behind, List.getElem?_cons_succ, List.getElem?_cons_zero, Slot.val, Option.getD_some, ite_self])
        ((repeat ((conv => whnf); refine And.intro (by first | exact trivial | exact rfl | omega | assumption | decide | exact pls_nD _ _ | exact keysOk_kv _ _ _) ?_)); (conv => whnf))
        exact this
      (try simp only [List.set_cons_succ, List.set_cons_zero, freezeI, wipeE, backE, freeze, freezes, behind, List.getElem?_cons_succ, List.getElem?_cons_zero, Slot.val, Option.getD_some, ite_self])
      ((repeat ((conv => whnf); refine And.intro (by first | exact trivial | exact rfl | omega | assumption | decide | exact pls_nD _ _ | exact keysOk_kv _ _ _) ?_)); (conv => whnf))
      exact hK r ⟨by have := hr.length; simpa using this.symm, hr.any (S := fun x => x < many) fun _ _ h => h⟩
    (try simp only [List.set_cons_succ, List.set_cons_zero, freezeI, wipeE, backE, freeze, freezes, behind, List.getElem?_cons_succ, List.getElem?_cons_zero, Slot.val, Option.getD_some, ite_self])
    ((repeat ((conv => whnf); refine And.intro (by first | exact trivial | exact rfl | omega | assumption | decide | exact pls_nD _ _ | exact keysOk_kv _ _ _) ?_)); (conv => whnf))
    intro v h1 h2
    obtain ⟨l, rfl⟩ : ∃ l : Nat, v = (l : Int) := ⟨v.toNat, by omega⟩
    (try simp only [List.set_cons_succ, List.set_cons_zero, freezeI, wipeE, backE, freeze, freezes, behind, List.getElem?_cons_succ, List.getElem?_cons_zero, Slot.val, Option.getD_some, ite_self])
    ((repeat ((conv => whnf); refine And.intro (by first | exact trivial | exact rfl | omega | assumption | decide | exact pls_nD _ _ | exact keysOk_kv _ _ _) ?_)); (conv => whnf))
    refine And.intro (by rw [List.length_map]; show S.length + 1 ≤ LB; unfold LB; omega) ?_
    (try simp only [List.set_cons_succ, List.set_cons_zero, freezeI, wipeE, backE, freeze, freezes, behind, List.getElem?_cons_succ, List.getElem?_cons_zero, Slot.val, Option.getD_some, ite_self])
    refine hK _ ⟨hlt, S ++ [(l, tb)], .sh d, .sh (.tup (tb.map rowD)), fun _ => ⟨_, rfl⟩, ?_, by simp [hSl], fun p hp => ?_⟩
    · rw [List.map_append]
      rfl
    · rcases List.mem_append.mp hp with z | z
      · exact hS p z
      · have : p = (l, tb) := by simpa using z
        subst this
        have hlen := htb.length
        exact ⟨by omega, by simpa using hlen.symm, htb.any (S := fun r : List Nat => r.length = outs ∧ ∀ x ∈ r, x < many) fun _ _ h => h⟩
  · rintro ρ ⟨hi, S, s6, s7, h6, rfl, hSl, hS⟩
    obtain ⟨d6, rfl⟩ := h6 (by rw [nD_len, List.length_range]; omega)
    have hSl : S.length = many := by rw [hSl, nD_len, List.length_range]
    obtain ⟨T, eT⟩ : ∃ T : Tk, T = ⟨ins, outs, S⟩ := ⟨_, rfl⟩
    have e1 : T.ins = ins := by rw [eT]
    have e2 : T.outs = outs := by rw [eT]
    have e3 : T.sts = S := by rw [eT]
    have e4 : T.sts.length = many := by rw [e3, hSl]
    have hG : GT T := by
      rw [eT]
      refine ⟨by show 1 ≤ ins; omega, by show ins ≤ 3; omega, by show 1 ≤ outs; omega, by show outs ≤ 3; omega, by show 1 ≤ S.length; omega, by show S.length ≤ 5; omega, fun p hp => ?_, fun p hp => (hS p hp).2.1, fun p hp r hr => ((hS p hp).2.2 r hr).1, fun p hp r hr x hx => ?_⟩
      · have := (hS p hp).1
        omega
      · have := ((hS p hp).2.2 r hr).2 x hx
        show x < S.length
        omega
    clear hS eT hi
    subst e1 e2 e3
    clear e4
    subst hSl
    ((repeat ((conv => whnf); refine And.intro (by first | exact trivial | exact rfl | omega | assumption | decide | exact pls_nD _ _ | exact keysOk_kv _ _ _) ?_)); (conv => whnf))
    refine talk_board_ok hT (n := 60) hG ?_
    have hTB := TB_len hG
    have hgb := TB_gb hG
    have hnb := TB_nb hG
    have hlvl := lvT_len hG
    have hlv : ∀ x ∈ lvT T, x < 8 := fun x hx => by
      unfold lvT at hx
      rcases List.mem_append.mp hx with z | z
      · obtain ⟨p, hp, rfl⟩ := List.mem_map.mp z
        have := hG.lv p hp
        omega
      · have := List.eq_of_mem_replicate z
        omega
    have hspot : ∀ p ∈ TB T, ∃ s, s < (TB T).length ∧ p = spot (TB T) s := fun p hp => by
      obtain ⟨i, hi, rfl⟩ := List.mem_iff_getElem.mp hp
      exact ⟨i, hi, by unfold spot; simp [List.getD, hi]⟩
    have hsrt : ∀ p ∈ TB T, p.2.Pairwise (· < ·) := fun p hp => by
      obtain ⟨s, hs, rfl⟩ := hspot p hp
      rcases TB_spot hG hs with h | ⟨k, c, hk, hc, rfl⟩
      · rw [TB_out h]
        refine List.pairwise_map.mpr (List.pairwise_lt_range.imp ?_)
        intro a b h
        omega
      · rw [TB_inn hG hk hc]
        exact sset_srt _
    have hfew : ∀ p ∈ TB T, p.2.length ≤ 1000 := fun p hp => by
      have := len_le (TB T).length p.2 ((hsrt p hp).imp fun h => by omega) (hgb.lt p hp)
      have := hgb.small
      omega
    (try simp only [List.set_cons_succ, List.set_cons_zero, freezeI, wipeE, backE, freeze, freezes, behind, List.getElem?_cons_succ, List.getElem?_cons_zero, Slot.val, Option.getD_some, ite_self])
    ((repeat ((conv => whnf); refine And.intro (by first | exact trivial | exact rfl | omega | assumption | decide | exact pls_nD _ _ | exact keysOk_kv _ _ _) ?_)); (conv => whnf))
    refine is_board_ok hT.toHasN hB (n := 58) (by omega) (by omega) hgb.ne hsrt hgb.lt hfew ?_
    (try simp only [List.set_cons_succ, List.set_cons_zero, freezeI, wipeE, backE, freeze, freezes, behind, List.getElem?_cons_succ, List.getElem?_cons_zero, Slot.val, Option.getD_some, ite_self])
    ((repeat ((conv => whnf); refine And.intro (by first | exact trivial | exact rfl | omega | assumption | decide | exact pls_nD _ _ | exact keysOk_kv _ _ _) ?_)); (conv => whnf))
    refine talk_paper_ok2 hL hT (n := 48) hG (fun C hC2 hby => ?_) (fun R hR hby => ?_)
    · (try simp only [List.set_cons_succ, List.set_cons_zero, freezeI, wipeE, backE, freeze, freezes, behind, List.getElem?_cons_succ, List.getElem?_cons_zero, Slot.val, Option.getD_some, ite_self])
      ((repeat ((conv => whnf); refine And.intro (by first | exact trivial | exact rfl | omega | assumption | decide | exact pls_nD _ _ | exact keysOk_kv _ _ _) ?_)); (conv => whnf))
      refine winners_levels_ok hB (n := 60) ?_
      refine level_wins_ok hL (n := 48) hgb hlvl hlv fun o c hS => ?_
      have h0 : ((nD ((List.range (TB T).length).filter fun s => decide (getN o s = some (pN true)))).any fun z => D.eqv z (.int ((0 : Nat) : Int))) = false := by
        rw [any_nD]
        refine decide_eq_false fun hm => ?_
        obtain ⟨o', c', hS', hw, _⟩ := hby
        have h1 : getN o 0 = some (pN false) := Sol.same hgb hS' hS hw
        have h2 := of_decide_eq_true (p := getN o 0 = some (pN true)) (List.mem_filter.mp hm).2
        rw [h1] at h2
        exact absurd h2 (by decide)
      have hz : (!(D.bl ((nD ((List.range (TB T).length).filter fun s => decide (getN o s = some (pN true)))).any fun z => D.eqv z (.int ((0 : Nat) : Int)))).eqv (.bl (D.eqv (.str refuserW) (.str responderW)))) = false := by rw [h0]; rfl
      (try simp only [List.set_cons_succ, List.set_cons_zero, freezeI, wipeE, backE, freeze, freezes, behind, List.getElem?_cons_succ, List.getElem?_cons_zero, Slot.val, Option.getD_some, ite_self])
      ((repeat ((conv => whnf); refine And.intro (by first | exact trivial | exact rfl | omega | assumption | decide | exact pls_nD _ _ | exact keysOk_kv _ _ _) ?_)); (conv => whnf))
      refine bif_by (fun h => absurd (h.symm.trans hz) nofun) (fun _ => ?_)
      ((repeat ((conv => whnf); refine And.intro (by first | exact trivial | exact rfl | omega | assumption | decide | exact pls_nD _ _ | exact keysOk_kv _ _ _) ?_)); (conv => whnf))
      refine check_ref_ok hL hT (n := 57) hG hC2 ?_
      clear h0 hz hS
      (try simp only [List.set_cons_succ, List.set_cons_zero, freezeI, wipeE, backE, freeze, freezes, behind, List.getElem?_cons_succ, List.getElem?_cons_zero, Slot.val, Option.getD_some, ite_self])
      ((repeat ((conv => whnf); refine And.intro (by first | exact trivial | exact rfl | omega | assumption | decide | exact pls_nD _ _ | exact keysOk_kv _ _ _) ?_)); (conv => whnf))
      refine And.intro (by unfold LB; omega) (And.intro (by omega) ?_)
      rw [rangeD_nat]
      refine lcW_onMap (fun (n : Nat) => D.int (n : Int)) (fun k => oD (some (T.sts.length + k * T.ins + C.getD k 0))) (List.range T.sts.length) (fun k hk K hK => ?_) ?_
      · have hk := List.mem_range.mp hk
        have hCk : C[k]? = some (C.getD k 0) := by
          have : k < C.length := by rw [hC2.len]; exact hk
          simp [List.getD, this]
        ((repeat ((conv => whnf); refine And.intro (by first | exact trivial | exact rfl | omega | assumption | decide | exact pls_nD _ _ | exact keysOk_kv _ _ _) ?_)); (conv => whnf))
        refine And.intro (.inl (.inl (by omega))) ?_
        ((repeat ((conv => whnf); refine And.intro (by first | exact trivial | exact rfl | omega | assumption | decide | exact pls_nD _ _ | exact keysOk_kv _ _ _) ?_)); (conv => whnf))
        refine idxL_nat (nD_get hCk) ?_
        ((repeat ((conv => whnf); refine And.intro (by first | exact trivial | exact rfl | omega | assumption | decide | exact pls_nD _ _ | exact keysOk_kv _ _ _) ?_)); (conv => whnf))
        have e : (T.sts.length : Int) + (k : Int) * (T.ins : Int) + (C.getD k 0 : Nat) = ((T.sts.length + k * T.ins + C.getD k 0 : Nat) : Int) := by simp
        rw [e]
        exact hK
      (try simp only [List.set_cons_succ, List.set_cons_zero, freezeI, wipeE, backE, freeze, freezes, behind, List.getElem?_cons_succ, List.getElem?_cons_zero, Slot.val, Option.getD_some, ite_self])
      ((repeat ((conv => whnf); refine And.intro (by first | exact trivial | exact rfl | omega | assumption | decide | exact pls_nD _ _ | exact keysOk_kv _ _ _) ?_)); (conv => whnf))
      refine And.intro (.inl (.inl (by omega))) ?_
      ((repeat ((conv => whnf); refine And.intro (by first | exact trivial | exact rfl | omega | assumption | decide | exact pls_nD _ _ | exact keysOk_kv _ _ _) ?_)); (conv => whnf))
      have eN : ((T.sts.length : Int) * (T.ins : Int)).toNat = T.sts.length * T.ins := by rw [← Int.natCast_mul]; rfl
      (try simp only [List.set_cons_succ, List.set_cons_zero, freezeI, wipeE, backE, freeze, freezes, behind, List.getElem?_cons_succ, List.getElem?_cons_zero, Slot.val, Option.getD_some, ite_self])
      rw [eN, show (List.replicate (T.sts.length * T.ins) [D.non]).flatten = _ from nons _]
      have hmi : T.sts.length * T.ins ≤ 8 := by omega
      refine And.intro (by simp only [List.length_map, List.length_range, List.length_replicate]; unfold LB; omega) ?_
      have eV : (List.range T.sts.length).map (fun k => oD (some (T.sts.length + k * T.ins + C.getD k 0))) ++ (List.replicate (T.sts.length * T.ins) (none : Option Nat)).map oD = (refV T C).map oD := by
        unfold refV
        rw [List.map_append, List.map_map]
        rfl
      rw [eV]
      clear eV eN
      ((repeat ((conv => whnf); refine And.intro (by first | exact trivial | exact rfl | omega | assumption | decide | exact pls_nD _ _ | exact keysOk_kv _ _ _) ?_)); (conv => whnf))
      refine check_spoiler_ok hL hT.toHasN hC h81 h57 (n := 55) hnb (refV_str hG hC2) hlvl (s := 0) (by omega) (refV_rings hG hby) ?_
      (try simp only [List.set_cons_succ, List.set_cons_zero, freezeI, wipeE, backE, freeze, freezes, behind, List.getElem?_cons_succ, List.getElem?_cons_zero, Slot.val, Option.getD_some, ite_self])
      ((repeat ((conv => whnf); refine And.intro (by first | exact trivial | exact rfl | omega | assumption | decide | exact pls_nD _ _ | exact keysOk_kv _ _ _) ?_)); (conv => whnf))
      refine left_by_ok hC (n := 57) (p := false) (refV_str hG hC2) ?_
      (try simp only [List.set_cons_succ, List.set_cons_zero, freezeI, wipeE, backE, freeze, freezes, behind, List.getElem?_cons_succ, List.getElem?_cons_zero, Slot.val, Option.getD_some, ite_self])
      ((repeat ((conv => whnf); refine And.intro (by first | exact trivial | exact rfl | omega | assumption | decide | exact pls_nD _ _ | exact keysOk_kv _ _ _) ?_)); (conv => whnf))
      show D.bl (D.eqv (.int (((leftB (TB T) false (refV T C)).map spD).length : Nat)) (.int (((TB T).map spD).length : Nat))) = .bl true
      rw [List.length_map, List.length_map, leftB_len, eqv_nat, decide_eq_true rfl]
    · (try simp only [List.set_cons_succ, List.set_cons_zero, freezeI, wipeE, backE, freeze, freezes, behind, List.getElem?_cons_succ, List.getElem?_cons_zero, Slot.val, Option.getD_some, ite_self])
      ((repeat ((conv => whnf); refine And.intro (by first | exact trivial | exact rfl | omega | assumption | decide | exact pls_nD _ _ | exact keysOk_kv _ _ _) ?_)); (conv => whnf))
      refine winners_levels_ok hB (n := 60) ?_
      refine level_wins_ok hL (n := 48) hgb hlvl hlv fun o c hS => ?_
      have h0 : ((nD ((List.range (TB T).length).filter fun s => decide (getN o s = some (pN true)))).any fun z => D.eqv z (.int ((0 : Nat) : Int))) = true := by
        rw [any_nD]
        obtain ⟨o', c', hS', hw, _⟩ := hby
        have h1 : getN o 0 = some (pN true) := Sol.same hgb hS' hS hw
        exact decide_eq_true (List.mem_filter.mpr ⟨List.mem_range.mpr (by omega), decide_eq_true h1⟩)
      have hz : (!(D.bl ((nD ((List.range (TB T).length).filter fun s => decide (getN o s = some (pN true)))).any fun z => D.eqv z (.int ((0 : Nat) : Int)))).eqv (.bl (D.eqv (.str responderW) (.str responderW)))) = false := by rw [h0]; rfl
      (try simp only [List.set_cons_succ, List.set_cons_zero, freezeI, wipeE, backE, freeze, freezes, behind, List.getElem?_cons_succ, List.getElem?_cons_zero, Slot.val, Option.getD_some, ite_self])
      ((repeat ((conv => whnf); refine And.intro (by first | exact trivial | exact rfl | omega | assumption | decide | exact pls_nD _ _ | exact keysOk_kv _ _ _) ?_)); (conv => whnf))
      refine bif_by (fun h => absurd (h.symm.trans hz) nofun) (fun _ => ?_)
      ((repeat ((conv => whnf); refine And.intro (by first | exact trivial | exact rfl | omega | assumption | decide | exact pls_nD _ _ | exact keysOk_kv _ _ _) ?_)); (conv => whnf))
      refine check_resp_ok hL hT (n := 57) hG hR ?_
      clear h0 hz hS
      (try simp only [List.set_cons_succ, List.set_cons_zero, freezeI, wipeE, backE, freeze, freezes, behind, List.getElem?_cons_succ, List.getElem?_cons_zero, Slot.val, Option.getD_some, ite_self])
      ((repeat ((conv => whnf); refine And.intro (by first | exact trivial | exact rfl | omega | assumption | decide | exact pls_nD _ _ | exact keysOk_kv _ _ _) ?_)); (conv => whnf))
      refine And.intro (by unfold LB; omega) (And.intro (by omega) ?_)
      rw [rangeD_nat]
      obtain ⟨G, eG⟩ : ∃ G : Nat → List (Option Nat), ∀ i, G i = List.replicate T.sts.length none ++ (List.range i).flatMap fun k => (List.range T.ins).map fun x => some (T.cell k x ((R.getD k []).getD x 0)) := ⟨_, fun _ => rfl⟩
      have hG0 : (List.replicate ((T.sts.length : Int)).toNat [D.non]).flatten = (G 0).map oD := by
        rw [eG]
        have : ((T.sts.length : Int)).toNat = T.sts.length := by omega
        rw [this]
        simp [oD]
      have hGl : ∀ i, i ≤ T.sts.length → (G i).length ≤ 30 := fun i hi => by
        rw [eG, List.length_append, List.length_replicate, flat_len _ T.ins _ (fun a _ => by simp), List.length_range]
        have := Nat.mul_le_mul_right T.ins hi
        omega
      refine foW_inv (I := fun i ρ => i ≤ T.sts.length ∧ ∃ (d6 : D), ρ = [.un, .sh .pool, .sh (.int (T.ins : Int)), .sh (.int (T.outs : Int)), .sh (.int (T.sts.length : Int)), .sh (.tup (T.sts.map stD)), .sh d6, s7, .sh (tD T), .sh (bD (TB T)), .sh (.tup (nD (lvT T))), .sh (.str responderW), .sh (.tup (R.map rowD)), .sh (.tup ((G i).map oD)), .un, .un, .un, .un, .un, .un, .un, .un, .un, .un]) ?_ ?_ ?_
      · refine ⟨Nat.zero_le _, d6, ?_⟩
        rw [← hG0]
        rfl
      · rintro k d ρ K hd ⟨hi, d6, rfl⟩ hK
        have hlt : k < T.sts.length := by
          have := (List.getElem?_eq_some_iff.mp hd).1
          simpa [nD] using this
        have ed : d = .int (k : Int) := by
          have : (nD (List.range T.sts.length))[k]? = some (.int (k : Int)) := nD_get (by simp [hlt])
          rw [this] at hd
          exact (Option.some.inj hd).symm
        subst ed
        have hgl := hGl k hi
        ((repeat ((conv => whnf); refine And.intro (by first | exact trivial | exact rfl | omega | assumption | decide | exact pls_nD _ _ | exact keysOk_kv _ _ _) ?_)); (conv => whnf))
        refine And.intro (by unfold LB; omega) (And.intro (by omega) ?_)
        rw [rangeD_nat]
        refine lcW_onMap (fun (n : Nat) => D.int (n : Int)) (fun x => oD (some (T.cell k x ((R.getD k []).getD x 0)))) (List.range T.ins) (fun x hx K hK => ?_) ?_
        · have hx := List.mem_range.mp hx
          have eS := GT.st_get hlt
          have eW := hG.row_get hlt hx
          have eC := hG.cell_get hlt hx (hR.rok.out hlt hx)
          have eR := hR.rok.get hlt
          have eA := hR.rok.get2 hlt hx
          ((repeat ((conv => whnf); refine And.intro (by first | exact trivial | exact rfl | omega | assumption | decide | exact pls_nD _ _ | exact keysOk_kv _ _ _) ?_)); (conv => whnf))
          refine idxL_nat (d := stD (T.st k)) (by rw [List.getElem?_map, eS]; rfl) ?_
          ((repeat ((conv => whnf); refine And.intro (by first | exact trivial | exact rfl | omega | assumption | decide | exact pls_nD _ _ | exact keysOk_kv _ _ _) ?_)); (conv => whnf))
          refine idxL_nat (d := rowD (T.row k x)) (by rw [List.getElem?_map, eW]; rfl) ?_
          ((repeat ((conv => whnf); refine And.intro (by first | exact trivial | exact rfl | omega | assumption | decide | exact pls_nD _ _ | exact keysOk_kv _ _ _) ?_)); (conv => whnf))
          refine idxL_nat (d := rowD (R.getD k [])) (by rw [List.getElem?_map, eR]; rfl) ?_
          ((repeat ((conv => whnf); refine And.intro (by first | exact trivial | exact rfl | omega | assumption | decide | exact pls_nD _ _ | exact keysOk_kv _ _ _) ?_)); (conv => whnf))
          refine idxL_nat (nD_get eA) ?_
          ((repeat ((conv => whnf); refine And.intro (by first | exact trivial | exact rfl | omega | assumption | decide | exact pls_nD _ _ | exact keysOk_kv _ _ _) ?_)); (conv => whnf))
          refine idxL_nat (nD_get eC) ?_
          ((repeat ((conv => whnf); refine And.intro (by first | exact trivial | exact rfl | omega | assumption | decide | exact pls_nD _ _ | exact keysOk_kv _ _ _) ?_)); (conv => whnf))
          exact hK
        (try simp only [List.set_cons_succ, List.set_cons_zero, freezeI, wipeE, backE, freeze, freezes, behind, List.getElem?_cons_succ, List.getElem?_cons_zero, Slot.val, Option.getD_some, ite_self])
        ((repeat ((conv => whnf); refine And.intro (by first | exact trivial | exact rfl | omega | assumption | decide | exact pls_nD _ _ | exact keysOk_kv _ _ _) ?_)); (conv => whnf))
        refine And.intro (by rw [List.length_map, List.length_map, List.length_range]; unfold LB; omega) ?_
        have eK : (G k).map oD ++ (List.range T.ins).map (fun x => oD (some (T.cell k x ((R.getD k []).getD x 0)))) = (G (k + 1)).map oD := by
          rw [eG, eG, List.range_succ, List.flatMap_append]
          simp
        rw [eK]
        exact hK _ ⟨hlt, _, rfl⟩
      · rintro ρ ⟨hi, d6, rfl⟩
        rw [nD_len, List.length_range]
        have eV : G T.sts.length = respV T R := eG _
        rw [eV]
        clear hi hG0 hGl eV eG G
        ((repeat ((conv => whnf); refine And.intro (by first | exact trivial | exact rfl | omega | assumption | decide | exact pls_nD _ _ | exact keysOk_kv _ _ _) ?_)); (conv => whnf))
        refine check_maker_ok hL hT.toHasN hC h81 h57 (n := 55) hnb (respV_str hG hR.rok) hlvl (s := 0) (by omega) (respV_rings hG hby) ?_
        (try simp only [List.set_cons_succ, List.set_cons_zero, freezeI, wipeE, backE, freeze, freezes, behind, List.getElem?_cons_succ, List.getElem?_cons_zero, Slot.val, Option.getD_some, ite_self])
        ((repeat ((conv => whnf); refine And.intro (by first | exact trivial | exact rfl | omega | assumption | decide | exact pls_nD _ _ | exact keysOk_kv _ _ _) ?_)); (conv => whnf))
        intro v1 h1 h1'
        obtain ⟨a, rfl⟩ : ∃ a : Nat, v1 = (a : Int) := ⟨v1.toNat, by omega⟩
        (try simp only [List.set_cons_succ, List.set_cons_zero, freezeI, wipeE, backE, freeze, freezes, behind, List.getElem?_cons_succ, List.getElem?_cons_zero, Slot.val, Option.getD_some, ite_self])
        ((repeat ((conv => whnf); refine And.intro (by first | exact trivial | exact rfl | omega | assumption | decide | exact pls_nD _ _ | exact keysOk_kv _ _ _) ?_)); (conv => whnf))
        intro v2 h2 h2'
        obtain ⟨b, rfl⟩ : ∃ b : Nat, v2 = (b : Int) := ⟨v2.toNat, by omega⟩
        (try simp only [List.set_cons_succ, List.set_cons_zero, freezeI, wipeE, backE, freeze, freezes, behind, List.getElem?_cons_succ, List.getElem?_cons_zero, Slot.val, Option.getD_some, ite_self])
        ((repeat ((conv => whnf); refine And.intro (by first | exact trivial | exact rfl | omega | assumption | decide | exact pls_nD _ _ | exact keysOk_kv _ _ _) ?_)); (conv => whnf))
        intro v3 h3 h3'
        obtain ⟨c, rfl⟩ : ∃ c : Nat, v3 = (c : Int) := ⟨v3.toNat, by omega⟩
        (try simp only [List.set_cons_succ, List.set_cons_zero, freezeI, wipeE, backE, freeze, freezes, behind, List.getElem?_cons_succ, List.getElem?_cons_zero, Slot.val, Option.getD_some, ite_self])
        ((repeat ((conv => whnf); refine And.intro (by first | exact trivial | exact rfl | omega | assumption | decide | exact pls_nD _ _ | exact keysOk_kv _ _ _) ?_)); (conv => whnf))
        refine And.intro (.inl (.inr (by decide))) ?_
        ((repeat ((conv => whnf); refine And.intro (by first | exact trivial | exact rfl | omega | assumption | decide | exact pls_nD _ _ | exact keysOk_kv _ _ _) ?_)); (conv => whnf))
        have hci : ∀ i, [a, b, c].getD (i % 3) 0 < T.ins := fun i => by
          rcases show i % 3 = 0 ∨ i % 3 = 1 ∨ i % 3 = 2 by omega with z | z | z <;> rw [z]
          · show a < T.ins; omega
          · show b < T.ins; omega
          · show c < T.ins; omega
        have ecyc : (List.replicate ((T.sts.length : Int) * 3 + 1).toNat [D.int (a : Int), D.int (b : Int), D.int (c : Int)]).flatten = nD ((List.range (9 * T.sts.length + 3)).map fun i => [a, b, c].getD (i % 3) 0) := by
          rw [show ((T.sts.length : Int) * 3 + 1).toNat = T.sts.length * 3 + 1 by omega, cyc, show 3 * (T.sts.length * 3 + 1) = 9 * T.sts.length + 3 by omega]
        refine ⟨by simp, by omega, by omega, ?_⟩
        (try simp only [List.set_cons_succ, List.set_cons_zero, freezeI, wipeE, backE, freeze, freezes, behind, List.getElem?_cons_succ, List.getElem?_cons_zero, Slot.val, Option.getD_some, ite_self])
        rw [show (List.replicate ((T.sts.length : Int) * 3 + 1).toNat ([] ++ [D.int (a : Int)] ++ [D.int (b : Int)] ++ [D.int (c : Int)])).flatten = _ from ecyc]
        ((repeat ((conv => whnf); refine And.intro (by first | exact trivial | exact rfl | omega | assumption | decide | exact pls_nD _ _ | exact keysOk_kv _ _ _) ?_)); (conv => whnf))
        refine answers_ok hB (n := 60) hG hR.rok hci (N := 9 * T.sts.length + 3) (by omega) ?_
        (try simp only [List.set_cons_succ, List.set_cons_zero, freezeI, wipeE, backE, freeze, freezes, behind, List.getElem?_cons_succ, List.getElem?_cons_zero, Slot.val, Option.getD_some, ite_self])
        ((repeat ((conv => whnf); refine And.intro (by first | exact trivial | exact rfl | omega | assumption | decide | exact pls_nD _ _ | exact keysOk_kv _ _ _) ?_)); (conv => whnf))
        have hal : (nD ((List.range (9 * T.sts.length + 3)).map (ansT T R [a, b, c]))).length = 9 * T.sts.length + 3 := by rw [nD_len, List.length_map, List.length_range]
        rw [hal]
        refine And.intro (by unfold LB; omega) (And.intro (by omega) ?_)
        rw [rangeD_nat]
        refine foW_inv (I := fun i ρ => i ≤ 9 * T.sts.length + 3 ∧ ∃ (d6 : D) (s19 : Slot), ρ = [.un, .sh .pool, .sh (.int (T.ins : Int)), .sh (.int (T.outs : Int)), .sh (.int (T.sts.length : Int)), .sh (.tup (T.sts.map stD)), .sh d6, s7, .sh (tD T), .sh (bD (TB T)), .sh (.tup (nD (lvT T))), .sh (.str responderW), .sh (.tup (R.map rowD)), .sh (vD (respV T R)), .sh (.tup [.str makerW, vD (respV T R)]), .sh (.tup [.int (a : Int), .int (b : Int), .int (c : Int)]), .sh (.tup (nD ((List.range (9 * T.sts.length + 3)).map (ansT T R [a, b, c])))), .sh (.int (seen T R [a, b, c] i : Nat)), .ol (nD ((List.range i).map (seen T R [a, b, c]))), s19, .un, .un, .un, .un]) ?_ ?_ ?_
        · exact ⟨Nat.zero_le _, _, _, rfl⟩
        · rintro k d ρ K hd ⟨hi, d6, s19, rfl⟩ hK
          have hlt : k < 9 * T.sts.length + 3 := by
            have := (List.getElem?_eq_some_iff.mp hd).1
            simpa [nD] using this
          have ed : d = .int (k : Int) := by
            have : (nD (List.range (9 * T.sts.length + 3)))[k]? = some (.int (k : Int)) := nD_get (by simp [hlt])
            rw [this] at hd
            exact (Option.some.inj hd).symm
          subst ed
          have hs := seen_lt hG hR.rok hci k
          have hck := hci k
          have hA := hR.rok.out hs hck
          have eS := GT.st_get hs
          have eW := hG.row_get hs hck
          have eC := hG.cell_get hs hck hA
          have eX : [D.int (a : Int), D.int (b : Int), D.int (c : Int)][k % 3]? = some (.int ([a, b, c].getD (k % 3) 0 : Nat)) := by
            rcases show k % 3 = 0 ∨ k % 3 = 1 ∨ k % 3 = 2 by omega with z | z | z <;> rw [z] <;> rfl
          have eN : (nD ((List.range (9 * T.sts.length + 3)).map (ansT T R [a, b, c])))[k]? = some (.int (ansT T R [a, b, c] k : Nat)) := nD_get (by simp [hlt])
          have e3 : ((k : Int).fmod 3) = ((k % 3 : Nat) : Int) := by rw [Int.fmod_eq_emod_of_nonneg _ (by omega)]; exact (Int.natCast_emod k 3).symm
          have ln : (nD ((List.range k).map (seen T R [a, b, c]))).length < LB := by rw [nD_len, List.length_map, List.length_range]; unfold LB; omega
          ((repeat ((conv => whnf); refine And.intro (by first | exact trivial | exact rfl | omega | assumption | decide | exact pls_nD _ _ | exact keysOk_kv _ _ _) ?_)); (conv => whnf))
          rw [e3]
          refine idxL_nat eX ?_
          ((repeat ((conv => whnf); refine And.intro (by first | exact trivial | exact rfl | omega | assumption | decide | exact pls_nD _ _ | exact keysOk_kv _ _ _) ?_)); (conv => whnf))
          refine idxL_nat (d := stD (T.st (seen T R [a, b, c] k))) (by rw [List.getElem?_map, eS]; rfl) ?_
          ((repeat ((conv => whnf); refine And.intro (by first | exact trivial | exact rfl | omega | assumption | decide | exact pls_nD _ _ | exact keysOk_kv _ _ _) ?_)); (conv => whnf))
          refine idxL_nat (d := rowD (T.row (seen T R [a, b, c] k) ([a, b, c].getD (k % 3) 0))) (by rw [List.getElem?_map, eW]; rfl) ?_
          ((repeat ((conv => whnf); refine And.intro (by first | exact trivial | exact rfl | omega | assumption | decide | exact pls_nD _ _ | exact keysOk_kv _ _ _) ?_)); (conv => whnf))
          refine idxL_nat eN ?_
          ((repeat ((conv => whnf); refine And.intro (by first | exact trivial | exact rfl | omega | assumption | decide | exact pls_nD _ _ | exact keysOk_kv _ _ _) ?_)); (conv => whnf))
          refine idxL_nat (nD_get eC) ?_
          ((repeat ((conv => whnf); refine And.intro (by first | exact trivial | exact rfl | omega | assumption | decide | exact pls_nD _ _ | exact keysOk_kv _ _ _) ?_)); (conv => whnf))
          refine hK _ ⟨hlt, .int (k : Int), .sh (.int ([a, b, c].getD (k % 3) 0 : Nat)), ?_⟩
          rw [show nD ((List.range (k + 1)).map (seen T R [a, b, c])) = nD ((List.range k).map (seen T R [a, b, c])) ++ [.int (seen T R [a, b, c] k : Nat)] by rw [List.range_succ, List.map_append]; unfold nD; rw [List.map_append]; rfl]
          rfl
        · rintro ρ ⟨hi, d6, s19, rfl⟩
          clear hi
          rw [nD_len, List.length_range]
          have hsl : (nD ((List.range (9 * T.sts.length + 3)).map (seen T R [a, b, c]))).length = 9 * T.sts.length + 3 := by rw [nD_len, List.length_map, List.length_range]
          ((repeat ((conv => whnf); refine And.intro (by first | exact trivial | exact rfl | omega | assumption | decide | exact pls_nD _ _ | exact keysOk_kv _ _ _) ?_)); (conv => whnf))
          rw [hsl]
          refine And.intro (by unfold LB; omega) (And.intro (by omega) (And.intro (by unfold LB; omega) (And.intro (by omega) ?_)))
          have erS : rangeS 0 (((9 * T.sts.length + 3 : Nat) : Int) - 3) 3 = nD ((List.range (3 * T.sts.length)).map (3 * ·)) := by
            unfold rangeS
            have e : rangeZ 0 (((9 * T.sts.length + 3 : Nat) : Int) - 3) 3 = 3 * T.sts.length := by
              unfold rangeZ
              rw [if_pos (by omega)]
              omega
            rw [e]
            unfold nD
            rw [List.map_map]
            refine List.map_congr_left fun k _ => ?_
            show D.int (0 + (k : Int) * 3) = D.int ((3 * k : Nat) : Int)
            congr 1
            omega
          rw [erS]
          clear erS
          refine (?_ : foW _ _ _ _)
          refine foW_inv (I := fun i ρ => i ≤ 3 * T.sts.length ∧ ∃ (d6 : D), ρ = [.un, .sh .pool, .sh (.int (T.ins : Int)), .sh (.int (T.outs : Int)), .sh (.int (T.sts.length : Int)), .sh (.tup (T.sts.map stD)), .sh d6, s7, .sh (tD T), .sh (bD (TB T)), .sh (.tup (nD (lvT T))), .sh (.str responderW), .sh (.tup (R.map rowD)), .sh (vD (respV T R)), .sh (.tup [.str makerW, vD (respV T R)]), .sh (.tup [.int (a : Int), .int (b : Int), .int (c : Int)]), .sh (.tup (nD ((List.range (9 * T.sts.length + 3)).map (ansT T R [a, b, c])))), .sh (.int (seen T R [a, b, c] (9 * T.sts.length + 3) : Nat)), .ol (nD ((List.range (9 * T.sts.length + 3)).map (seen T R [a, b, c]))), s19, .ol (nD ((List.range i).map fun j => seen T R [a, b, c] (3 * j))), .un, .un, .un]) ?_ ?_ ?_
          · exact ⟨Nat.zero_le _, _, rfl⟩
          · rintro k d ρ K hd ⟨hi, d6, rfl⟩ hK
            have hlt : k < 3 * T.sts.length := by
              have := (List.getElem?_eq_some_iff.mp hd).1
              simpa [nD] using this
            have ed : d = .int ((3 * k : Nat) : Int) := by
              have : (nD ((List.range (3 * T.sts.length)).map (3 * ·)))[k]? = some (.int ((3 * k : Nat) : Int)) := nD_get (by simp [hlt])
              rw [this] at hd
              exact (Option.some.inj hd).symm
            subst ed
            have eS : (nD ((List.range (9 * T.sts.length + 3)).map (seen T R [a, b, c])))[3 * k]? = some (.int (seen T R [a, b, c] (3 * k) : Nat)) := nD_get (by rw [List.getElem?_map, List.getElem?_range (by omega)]; rfl)
            have ln : (nD ((List.range k).map fun j => seen T R [a, b, c] (3 * j))).length < LB := by rw [nD_len, List.length_map, List.length_range]; unfold LB; omega
            ((repeat ((conv => whnf); refine And.intro (by first | exact trivial | exact rfl | omega | assumption | decide | exact pls_nD _ _ | exact keysOk_kv _ _ _) ?_)); (conv => whnf))
            refine idxL_nat eS ?_
            ((repeat ((conv => whnf); refine And.intro (by first | exact trivial | exact rfl | omega | assumption | decide | exact pls_nD _ _ | exact keysOk_kv _ _ _) ?_)); (conv => whnf))
            refine hK _ ⟨hlt, .int ((3 * k : Nat) : Int), ?_⟩
            rw [show nD ((List.range (k + 1)).map fun j => seen T R [a, b, c] (3 * j)) = nD ((List.range k).map fun j => seen T R [a, b, c] (3 * j)) ++ [.int (seen T R [a, b, c] (3 * k) : Nat)] by rw [List.range_succ, List.map_append]; unfold nD; rw [List.map_append]; rfl]
            rfl
          · rintro ρ ⟨hi, d6, rfl⟩
            clear hi
            rw [nD_len, List.length_map, List.length_range]
            have hrl : (nD ((List.range (3 * T.sts.length)).map fun j => seen T R [a, b, c] (3 * j))).length = 3 * T.sts.length := by rw [nD_len, List.length_map, List.length_range]
            ((repeat ((conv => whnf); refine And.intro (by first | exact trivial | exact rfl | omega | assumption | decide | exact pls_nD _ _ | exact keysOk_kv _ _ _) ?_)); (conv => whnf))
            rw [hrl]
            refine And.intro (by unfold LB; omega) (And.intro (by omega) ?_)
            rw [rangeD_nat]
            refine foW_inv (I := fun i ρ => i ≤ 3 * T.sts.length ∧ ∃ (d6 : D) (g : Slot), ρ = [.un, .sh .pool, .sh (.int (T.ins : Int)), .sh (.int (T.outs : Int)), .sh (.int (T.sts.length : Int)), .sh (.tup (T.sts.map stD)), .sh d6, s7, .sh (tD T), .sh (bD (TB T)), .sh (.tup (nD (lvT T))), .sh (.str responderW), .sh (.tup (R.map rowD)), .sh (vD (respV T R)), .sh (.tup [.str makerW, vD (respV T R)]), .sh (.tup [.int (a : Int), .int (b : Int), .int (c : Int)]), .sh (.tup (nD ((List.range (9 * T.sts.length + 3)).map (ansT T R [a, b, c])))), .sh (.int (seen T R [a, b, c] (9 * T.sts.length + 3) : Nat)), .ol (nD ((List.range (9 * T.sts.length + 3)).map (seen T R [a, b, c]))), s19, .ol (nD ((List.range (3 * T.sts.length)).map fun j => seen T R [a, b, c] (3 * j))), g, .un, .un] ∧ ((g = .sh .non ∧ ∀ j l, l < j → j < i → seen T R [a, b, c] (3 * l) ≠ seen T R [a, b, c] (3 * j)) ∨ ∃ i0 e, 0 < e ∧ e ≤ 1000 ∧ seen T R [a, b, c] (i0 + e) = seen T R [a, b, c] i0 ∧ g = .ol (nD ((List.range e).map fun j => seen T R [a, b, c] (i0 + j))))) ?_ ?_ ?_
            · exact ⟨Nat.zero_le _, _, _, rfl, .inl ⟨rfl, fun j l h1 h2 => by omega⟩⟩
            · rintro k d ρ K hd ⟨hi, d6, g, rfl, hg⟩ hK
              have hlt : k < 3 * T.sts.length := by
                have := (List.getElem?_eq_some_iff.mp hd).1
                simpa [nD] using this
              have ed : d = .int (k : Int) := by
                have : (nD (List.range (3 * T.sts.length)))[k]? = some (.int (k : Int)) := nD_get (by simp [hlt])
                rw [this] at hd
                exact (Option.some.inj hd).symm
              subst ed
              have eR : (nD ((List.range (3 * T.sts.length)).map fun j => seen T R [a, b, c] (3 * j)))[k]? = some (.int (seen T R [a, b, c] (3 * k) : Nat)) := nD_get (by simp [hlt])
              rcases hg with ⟨rfl, hno⟩ | ⟨i0, e, he0, he1, heq, rfl⟩
              · ((repeat ((conv => whnf); refine And.intro (by first | exact trivial | exact rfl | omega | assumption | decide | exact pls_nD _ _ | exact keysOk_kv _ _ _) ?_)); (conv => whnf))
                refine idxL_nat eR ?_
                ((repeat ((conv => whnf); refine And.intro (by first | exact trivial | exact rfl | omega | assumption | decide | exact pls_nD _ _ | exact keysOk_kv _ _ _) ?_)); (conv => whnf))
                rw [cut_to _ k (by rw [hrl]; omega), take_nD _ _ k (by omega)]
                refine And.intro (pls_nD _ _) ?_
                ((repeat ((conv => whnf); refine And.intro (by first | exact trivial | exact rfl | omega | assumption | decide | exact pls_nD _ _ | exact keysOk_kv _ _ _) ?_)); (conv => whnf))
                refine bif_by (fun h => ?_) (fun h => ?_)
                · have h := of_decide_eq_true (any_nDT h)
                  obtain ⟨l, hl, el⟩ := List.mem_map.mp h
                  have hl := List.mem_range.mp hl
                  have hx : seen T R [a, b, c] (3 * k) ∈ (List.range (3 * T.sts.length)).map fun j => seen T R [a, b, c] (3 * j) := List.mem_map.mpr ⟨k, List.mem_range.mpr hlt, rfl⟩
                  obtain ⟨x1, x2⟩ := ixN_of hx
                  have x3 := ixN_first (l := (List.range (3 * T.sts.length)).map fun j => seen T R [a, b, c] (3 * j)) (x := seen T R [a, b, c] (3 * k)) (j := l) (by rw [List.getElem?_map, List.getElem?_range (by omega), ← el]; rfl)
                  generalize ixN ((List.range (3 * T.sts.length)).map fun j => seen T R [a, b, c] (3 * j)) (seen T R [a, b, c] (3 * k)) = ix at x1 x2 x3
                  ((repeat ((conv => whnf); refine And.intro (by first | exact trivial | exact rfl | omega | assumption | decide | exact pls_nD _ _ | exact keysOk_kv _ _ _) ?_)); (conv => whnf))
                  refine And.intro (fun z => nomatch z) ?_
                  ((repeat ((conv => whnf); refine And.intro (by first | exact trivial | exact rfl | omega | assumption | decide | exact pls_nD _ _ | exact keysOk_kv _ _ _) ?_)); (conv => whnf))
                  refine idxL_nat eR ?_
                  ((repeat ((conv => whnf); refine And.intro (by first | exact trivial | exact rfl | omega | assumption | decide | exact pls_nD _ _ | exact keysOk_kv _ _ _) ?_)); (conv => whnf))
                  refine fndL_of x1 ?_
                  ((repeat ((conv => whnf); refine And.intro (by first | exact trivial | exact rfl | omega | assumption | decide | exact pls_nD _ _ | exact keysOk_kv _ _ _) ?_)); (conv => whnf))
                  refine And.intro (.inl (.inl (by decide))) ?_
                  ((repeat ((conv => whnf); refine And.intro (by first | exact trivial | exact rfl | omega | assumption | decide | exact pls_nD _ _ | exact keysOk_kv _ _ _) ?_)); (conv => whnf))
                  refine And.intro (.inl (.inl (by decide))) ?_
                  ((repeat ((conv => whnf); refine And.intro (by first | exact trivial | exact rfl | omega | assumption | decide | exact pls_nD _ _ | exact keysOk_kv _ _ _) ?_)); (conv => whnf))
                  rw [cut_at (x := 3 * (ix : Int)) (i := 3 * ix) (by omega) (by rw [hsl]; omega), cut_at (x := 3 * (k : Int)) (i := 3 * k) (by omega) (by rw [hsl]; omega), cut_nD _ _ _ _ (by omega)]
                  have x4 : seen T R [a, b, c] (3 * ix) = seen T R [a, b, c] (3 * k) := by
                    rw [List.getElem?_map, List.getElem?_range (by omega)] at x2
                    exact Option.some.inj x2
                  refine hK _ ⟨hlt, _, _, rfl, .inr ⟨3 * ix, 3 * k - 3 * ix, by omega, by omega, ?_, rfl⟩⟩
                  rw [show 3 * ix + (3 * k - 3 * ix) = 3 * k by omega]
                  exact x4.symm
                · have h := of_decide_eq_false (any_nDF h)
                  ((repeat ((conv => whnf); refine And.intro (by first | exact trivial | exact rfl | omega | assumption | decide | exact pls_nD _ _ | exact keysOk_kv _ _ _) ?_)); (conv => whnf))
                  refine hK _ ⟨hlt, _, _, rfl, .inl ⟨rfl, fun j l h1 h2 => ?_⟩⟩
                  by_cases cj : j < k
                  · exact hno j l h1 cj
                  · have : j = k := by omega
                    subst this
                    exact fun z => h (List.mem_map.mpr ⟨l, List.mem_range.mpr h1, z⟩)
              · ((repeat ((conv => whnf); refine And.intro (by first | exact trivial | exact rfl | omega | assumption | decide | exact pls_nD _ _ | exact keysOk_kv _ _ _) ?_)); (conv => whnf))
                exact hK _ ⟨hlt, _, _, rfl, .inr ⟨i0, e, he0, he1, heq, rfl⟩⟩
            · rintro ρ ⟨hi, d6, g, rfl, hg⟩
              clear hi
              rw [nD_len, List.length_range] at hg
              rcases hg with ⟨rfl, hno⟩ | ⟨i0, e, he0, he1, heq, rfl⟩
              · exfalso
                have nd : ((List.range (3 * T.sts.length)).map fun j => seen T R [a, b, c] (3 * j)).Nodup := by
                  refine List.pairwise_map.mpr (List.Pairwise.imp_of_mem ?_ List.pairwise_lt_range)
                  intro x y _ hy hxy
                  exact hno y x hxy (List.mem_range.mp hy)
                have := len_le T.sts.length _ nd fun x hx => by
                  obtain ⟨j, _, rfl⟩ := List.mem_map.mp hx
                  exact seen_lt hG hR.rok hci _
                rw [List.length_map, List.length_range] at this
                have := hG.s1
                omega
              · have hev := seen_even hG hR hci he0 heq
                refine (?_ : wSs _ _ _ _)
                ((repeat ((conv => whnf); refine And.intro (by first | exact trivial | exact rfl | omega | assumption | decide | exact pls_nD _ _ | exact keysOk_kv _ _ _) ?_)); (conv => whnf))
                refine lcW_onMap (fun (n : Nat) => D.int (n : Int)) (fun s => .int (T.lev s : Nat)) ((List.range e).map fun j => seen T R [a, b, c] (i0 + j)) (fun s hs K hK => ?_) ?_
                · obtain ⟨j, _, rfl⟩ := List.mem_map.mp hs
                  have eS := GT.st_get (seen_lt hG hR.rok hci (i0 + j))
                  ((repeat ((conv => whnf); refine And.intro (by first | exact trivial | exact rfl | omega | assumption | decide | exact pls_nD _ _ | exact keysOk_kv _ _ _) ?_)); (conv => whnf))
                  refine idxL_nat (d := stD (T.st (seen T R [a, b, c] (i0 + j)))) (by rw [List.getElem?_map, eS]; rfl) ?_
                  ((repeat ((conv => whnf); refine And.intro (by first | exact trivial | exact rfl | omega | assumption | decide | exact pls_nD _ _ | exact keysOk_kv _ _ _) ?_)); (conv => whnf))
                  exact hK
                rw [show ((List.range e).map fun j => seen T R [a, b, c] (i0 + j)).map (fun s => D.int (T.lev s : Nat)) = nD ((List.range e).map fun j => T.lev (seen T R [a, b, c] (i0 + j))) by unfold nD; rw [List.map_map, List.map_map]; rfl]
                cases hL : (List.range e).map fun j => T.lev (seen T R [a, b, c] (i0 + j)) with
                | nil =>
                  have := congrArg List.length hL
                  simp at this
                  omega
                | cons x xs =>
                  rw [hL, List.foldl_cons, Nat.max_eq_right (Nat.zero_le x)] at hev
                  (try simp only [List.set_cons_succ, List.set_cons_zero, freezeI, wipeE, backE, freeze, freezes, behind, List.getElem?_cons_succ, List.getElem?_cons_zero, Slot.val, Option.getD_some, ite_self])
                  ((repeat ((conv => whnf); refine And.intro (by first | exact trivial | exact rfl | omega | assumption | decide | exact pls_nD _ _ | exact keysOk_kv _ _ _) ?_)); (conv => whnf))
                  refine max_ok ?_
                  (try simp only [List.set_cons_succ, List.set_cons_zero, freezeI, wipeE, backE, freeze, freezes, behind, List.getElem?_cons_succ, List.getElem?_cons_zero, Slot.val, Option.getD_some, ite_self])
                  ((repeat ((conv => whnf); refine And.intro (by first | exact trivial | exact rfl | omega | assumption | decide | exact pls_nD _ _ | exact keysOk_kv _ _ _) ?_)); (conv => whnf))
                  rw [fmod2, hev]
                  rfl
end Wg
open PySem PySem.W PyProof.Rows
theorem PySem.Challenge.cw_wishgames_k52_whole_talks_as_games_holds : PySem.Challenge.rw_wishgames_k52_whole_talks_as_games.Holds := by
  have hN : Wg.HasN WgHead.Pg := ⟨rfl, rfl, rfl, rfl⟩
  have hT : Wg.HasTB WgHead.Pg := { toHasN := hN, h147 := rfl, h217 := rfl, h218 := rfl, h144 := rfl, h143 := rfl, h98 := rfl, h97 := rfl, h58 := rfl }
  obtain ⟨rest, e, w⟩ := Wg.law52 (P := WgHead.Pg) ⟨rfl, rfl, rfl, rfl, rfl⟩ hT ⟨rfl, rfl, rfl, rfl⟩ ⟨rfl, rfl, rfl, rfl, rfl, rfl, rfl, rfl, rfl, rfl, rfl, rfl, rfl, rfl⟩ rfl rfl
  exact WgHead.holds (k := 22) (rest := rest) e w

