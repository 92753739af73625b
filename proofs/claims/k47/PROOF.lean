import PyProof.Rows.All
import Wide.All
import OpenK.AllK
import Wide.FinOn
import PySem.Challenge.RW_wishgames_k47_whole_tolls_and_stores
import KE.KStateDown
import HandS.Ends
import HandS.More
import HandS.Words
import HandS.WordsExc
import HandS.Head0
import HandS.Head1
import HandS.Head2
import HandS.HeadEnd
import HandS.HeadHook1
import HandS.HeadHook2
import HandS.Codes
import HandS.ForMost
import HandS.Flow
import HandS.Deep
import HandS.TupAny
import HandS.TupMul
import HandS.Wide
import KE.SortData
import KE.SortLaws
import KE.DataCmp
import KE.DatumOrd
import HandS.Style
import HandS.Conv
import KE.DataFind
import KE.DataMinMax
import KE.KIndexOf
import HandS.Walk
import HandS.Iter
import HandS.Zip
import HandS.SetFor
import HandS.Head3
import HandS.Defaults
set_option Elab.async false
set_option linter.all false
set_option maxRecDepth 100000
/-! Wg: a small language of data, its weakest preconditions. Plain Lean. -/
namespace Wg
/-- data: what Python's values are worth -/
inductive D where
  | non
  | bl (b : Bool)
  | int (i : Int)
  | str (s : List Nat)
  | tup (l : List D)
  | lst (l : List D)
  | dct (l : List (D × D))
  | fn (f : Nat) (caps : List D)
  | pool
  | scr (k : Nat) (ns : List Int)
  deriving Inhabited
/-- the most items that a list may have here -/
def LB : Nat := 1000000
mutual
/-- no dict, no function, no pool in it; depth at most n -/
def D.pl : Nat → D → Bool
  | _, .non => true
  | _, .bl _ => true
  | _, .int _ => true
  | _, .str s => s.all fun c => decide (c < 1114112)
  | n + 1, .tup l => D.pls n l
  | n + 1, .lst l => D.pls n l
  | _, _ => false
def D.pls : Nat → List D → Bool
  | _, [] => true
  | n, x :: xs => D.pl n x && D.pls n xs
end
mutual
/-- == -/
def D.eqv : D → D → Bool
  | .non, .non => true
  | .bl a, .bl b => a == b
  | .bl a, .int j => (if a then 1 else 0) == j
  | .int i, .bl b => i == (if b then 1 else 0)
  | .int i, .int j => i == j
  | .str x, .str y => x == y
  | .lst xs, .lst ys => D.eqvs xs ys
  | .tup xs, .tup ys => D.eqvs xs ys
  | _, _ => false
def D.eqvs : List D → List D → Bool
  | [], [] => true
  | x :: xs, y :: ys => D.eqv x y && D.eqvs xs ys
  | _, _ => false
end
/-- the order of two texts -/
def ltNs : List Nat → List Nat → Bool
  | [], [] => false
  | [], _ :: _ => true
  | _ :: _, [] => false
  | x :: xs, y :: ys => if x = y then ltNs xs ys else decide (x < y)
mutual
/-- two data whose order is known: place by place of one kind -/
def D.alike : D → D → Bool
  | .non, .non => true
  | .bl _, .bl _ => true
  | .int _, .int _ => true
  | .str _, .str _ => true
  | .lst xs, .lst ys => D.alikes xs ys
  | .tup xs, .tup ys => D.alikes xs ys
  | _, _ => false
def D.alikes : List D → List D → Bool
  | x :: xs, y :: ys => D.alike x y && D.alikes xs ys
  | [], _ => true
  | _ :: _, [] => true
end
mutual
/-- < -/
def D.lt : D → D → Bool
  | .int i, .int j => decide (i < j)
  | .bl a, .bl b => !a && b
  | .str x, .str y => ltNs x y
  | .lst xs, .lst ys => D.lts xs ys
  | .tup xs, .tup ys => D.lts xs ys
  | _, _ => false
def D.lts : List D → List D → Bool
  | [], [] => false
  | [], _ :: _ => true
  | _ :: _, [] => false
  | x :: xs, y :: ys => if D.eqv x y then D.lts xs ys else D.lt x y
end
mutual
/-- made of tuples and plain things alone -/
def D.imm : D → Bool
  | .tup l => D.imms l
  | .lst _ => false
  | .dct _ => false
  | .pool => false
  | .fn _ _ => false
  | .scr _ _ => false
  | _ => true
def D.imms : List D → Bool
  | [] => true
  | x :: xs => D.imm x && D.imms xs
end
/-- what a name's slot holds: nothing; a value that may be known elsewhere, too; a list or a dict of its own, which it may change -/
inductive Slot where
  | un
  | sh (d : D)
  | ol (l : List D)
  | od (l : List (D × D))
  deriving Inhabited
abbrev Env := List Slot
def Slot.val : Slot → D
  | .un => .non
  | .sh d => d
  | .ol l => .lst l
  | .od l => .dct l
/-- an operand: a name, or a value -/
inductive Opd where
  | r (i : Nat)
  | v (d : D)
def peek (ρ : Env) (i : Nat) (Q : D → Prop) : Prop :=
  match ρ[i]? with
  | some (.sh d) => Q d
  | some (.ol l) => Q (.lst l)
  | some (.od l) => Q (.dct l)
  | _ => False
def Opd.get (ρ : Env) (o : Opd) (Q : D → Prop) : Prop :=
  match o with
  | .r i => peek ρ i Q
  | .v d => Q d
/-- the name's list or dict may be known elsewhere from now on -/
def freeze (ρ : Env) (i : Nat) : Env :=
  match ρ[i]? with
  | some (.ol l) => ρ.set i (.sh (.lst l))
  | some (.od l) => ρ.set i (.sh (.dct l))
  | _ => ρ
def freezes (ρ : Env) : List Opd → Env
  | [] => ρ
  | .r i :: os => freezes (freeze ρ i) os
  | .v _ :: os => freezes ρ os
def gets (ρ : Env) : List Opd → (List D → Prop) → Prop
  | [], Q => Q []
  | o :: os, Q => o.get ρ fun d => gets ρ os fun ds => Q (d :: ds)
inductive BOp where
  | add | sub | mul | fdiv | mod
  deriving DecidableEq, Inhabited
inductive COp where
  | eq | ne | lt | le | gt | ge | isN | notN | inn | nin
  deriving DecidableEq, Inhabited
/-- built-in functions -/
inductive Blt where
  | len | tuple | list | sorted | sortedSet | lenSet | min | max | sum | abs | int | all | any | range | zip | repr | str
  | isInt | isBool | isStr | isTup | isList
  deriving DecidableEq, Inhabited
/-- methods -/
inductive Mth where
  | append | extend | pop | update | index | count | get | split | join
  deriving DecidableEq, Inhabited
mutual
inductive Ex where
  | lit (d : D)
  | var (i : Nat)
  | glb (g : Nat)
  | bin (o : BOp) (a b : Ex)
  | neg (a : Ex)
  | not (a : Ex)
  | cmp (o : COp) (a b : Ex)
  | chn (o1 o2 : COp) (a b c : Ex)
  | and (a b : Ex)
  | or (a b : Ex)
  | ife (c a b : Ex)
  | tup (es : Exs)
  | lst (es : Exs)
  | dct (kvs : Kvs)
  | idx (a i : Ex)
  | slc (a lo hi : Ex)
  | rev (a : Ex)
  | noPart
  | call (f : Nat) (es : Exs)
  | callv (f : Ex) (es : Exs)
  | blt (b : Blt) (es : Exs)
  | rng (t : Bool) (es : Exs)
  | mth (m : Mth) (o : Ex) (es : Exs)
  | lc (own : List Nat) (elt : Ex) (t : Tg) (it : It) (c : Exs)
  | dc (own : List Nat) (k v : Ex) (t : Tg) (it : It) (c : Exs)
  | lam (id : Nat) (caps : List Nat)
  | minKey (most : Bool) (e : Ex) (own : Nat) (key : Ex)
inductive Exs where
  | n
  | c (e : Ex) (es : Exs)
inductive Kvs where
  | n
  | c (k v : Ex) (kvs : Kvs)
inductive It where
  | e (e : Ex)
  | range (es : Exs)
  | zip (es : Exs)
inductive Tg where
  | nm (i : Nat)
  | tp (ts : Tgs)
  | sb (k : Nat) (i : Ex)
inductive Tgs where
  | n
  | c (t : Tg) (ts : Tgs)
end
instance : Inhabited Ex := ⟨.noPart⟩
def Exs.len : Exs → Nat
  | .n => 0
  | .c _ es => es.len + 1
def Tgs.len : Tgs → Nat
  | .n => 0
  | .c _ ts => ts.len + 1
mutual
inductive St where
  | asg (t : Tg) (e : Ex)
  | aug (i : Nat) (o : BOp) (e : Ex)
  | augS (k : Nat) (i : Ex) (o : BOp) (e : Ex)
  | exp (e : Ex)
  | ret (e : Ex)
  | iff (c : Ex) (a b : Sts)
  | whl (c : Ex) (b : Sts)
  | for (t : Tg) (it : It) (b : Sts)
  | brk
  | cnt
  | rse
inductive Sts where
  | n
  | c (s : St) (ss : Sts)
end
instance : Inhabited Sts := ⟨.n⟩
/-! ### operations by values -/
/-- a * 's size is no matter below this -/
def okMul (i j : Int) : Prop := (i.natAbs < 2 ^ 64 ∨ j.natAbs < 2 ^ 64) ∨ (i.natAbs < 2 ^ 100000 ∧ j.natAbs < 2 ^ 100000)
def okDiv (j : Int) : Prop := j ≠ 0 ∧ (j.natAbs < 2 ^ 64 ∨ j.natAbs < 2 ^ 8900)
def binV (o : BOp) (x y : D) (Q : Slot → Prop) : Prop :=
  match o, x, y with
  | .add, .int i, .int j => Q (.sh (.int (i + j)))
  | .add, .tup a, .tup b => a.length + b.length ≤ LB ∧ Q (.sh (.tup (a ++ b)))
  | .add, .lst a, .lst b => a.length + b.length ≤ LB ∧ Q (.ol (a ++ b))
  | .add, .str a, .str b => a.length + b.length ≤ LB ∧ Q (.sh (.str (a ++ b)))
  | .sub, .int i, .int j => Q (.sh (.int (i - j)))
  | .mul, .int i, .int j => okMul i j ∧ Q (.sh (.int (i * j)))
  | .mul, .tup a, .int j => a.length ≤ 1000 ∧ -1000 ≤ j ∧ j ≤ 1000 ∧ Q (.sh (.tup (List.replicate j.toNat a).flatten))
  | .mul, .lst a, .int j => a.length ≤ 1000 ∧ -1000 ≤ j ∧ j ≤ 1000 ∧ Q (.ol (List.replicate j.toNat a).flatten)
  | .fdiv, .int i, .int j => okDiv j ∧ Q (.sh (.int (i.fdiv j)))
  | .mod, .int i, .int j => j ≠ 0 ∧ Q (.sh (.int (i.fmod j)))
  | _, _, _ => False
def lookD (kvs : List (D × D)) (k : D) : Option D :=
  match kvs with
  | [] => none
  | p :: ps => if D.eqv p.1 k then some p.2 else lookD ps k
/-- d[k] = v -/
def putD (kvs : List (D × D)) (k v : D) : List (D × D) :=
  match kvs with
  | [] => [(k, v)]
  | p :: ps => if D.eqv p.1 k then (p.1, v) :: ps else p :: putD ps k v
/-- a dict's keys: whole numbers and texts, or tuples -/
def D.leaf : D → Bool
  | .int _ => true
  | .str _ => true
  | _ => false
mutual
def D.nk : Nat → D → Bool
  | _, .int _ => true
  | _, .non => true
  | _, .str _ => true
  | n + 1, .tup l => D.nks n l
  | _, _ => false
def D.nks : Nat → List D → Bool
  | _, [] => true
  | n, x :: xs => D.nk n x && D.nks n xs
end
def D.isTup : D → Bool
  | .tup _ => true
  | _ => false
/-- keys of one dict, of one kind -/
def keysOk (kvs : List (D × D)) (k : D) : Bool :=
  (D.leaf k && kvs.all fun p => D.leaf p.1) || (D.isTup k && D.nk 6 k && kvs.all fun p => D.isTup p.1 && D.nk 6 p.1)
def isNon : D → Bool
  | .non => true
  | _ => false
def cmpV (o : COp) (x y : D) (Q : Bool → Prop) : Prop :=
  match o with
  | .eq => D.pl 9 x = true ∧ D.pl 9 y = true ∧ Q (D.eqv x y)
  | .ne => D.pl 9 x = true ∧ D.pl 9 y = true ∧ Q (!D.eqv x y)
  | .lt => D.pl 9 x = true ∧ D.pl 9 y = true ∧ D.alike x y = true ∧ x.eqv .non = false ∧ Q (D.lt x y)
  | .gt => D.pl 9 x = true ∧ D.pl 9 y = true ∧ D.alike x y = true ∧ x.eqv .non = false ∧ Q (D.lt y x)
  | .le => D.pl 9 x = true ∧ D.pl 9 y = true ∧ D.alike x y = true ∧ x.eqv .non = false ∧ Q (!D.lt y x)
  | .ge => D.pl 9 x = true ∧ D.pl 9 y = true ∧ D.alike x y = true ∧ x.eqv .non = false ∧ Q (!D.lt x y)
  | .isN => match y with | .non => Q (isNon x) | _ => False
  | .notN => match y with | .non => Q (!isNon x) | _ => False
  | .inn => match y with
    | .tup l => D.pl 9 x = true ∧ D.pls 9 l = true ∧ Q (l.any fun z => D.eqv z x)
    | .lst l => D.pl 9 x = true ∧ D.pls 9 l = true ∧ Q (l.any fun z => D.eqv z x)
    | .dct kvs => keysOk kvs x = true ∧ Q (lookD kvs x).isSome
    | _ => False
  | .nin => match y with
    | .tup l => D.pl 9 x = true ∧ D.pls 9 l = true ∧ Q (!l.any fun z => D.eqv z x)
    | .lst l => D.pl 9 x = true ∧ D.pls 9 l = true ∧ Q (!l.any fun z => D.eqv z x)
    | .dct kvs => keysOk kvs x = true ∧ Q (!(lookD kvs x).isSome)
    | _ => False
/-- the place of an index, from the end if it is negative -/
def ixOf (n : Nat) (i : Int) : Option Nat := if 0 ≤ i then (if i < n then some i.toNat else none) else if -(n : Int) ≤ i then some (i + n).toNat else none
def idxL (l : List D) (i : Int) (Q : D → Prop) : Prop := match (ixOf l.length i).bind (l[·]?) with | some d => Q d | none => False
theorem ixOf_nat {n k : Nat} (h : k < n) : ixOf n (k : Int) = some k := by
  unfold ixOf
  rw [if_pos (Int.natCast_nonneg k), if_pos (by omega)]
  rfl
/-- an item, by its place -/
theorem idxL_nat {l : List D} {k : Nat} {d : D} {Q : D → Prop} (h : l[k]? = some d) (q : Q d) : idxL l (k : Int) Q := by
  have hk : k < l.length := (List.getElem?_eq_some_iff.mp h).1
  unfold idxL
  rw [ixOf_nat hk]
  simp only [Option.bind_some, h]
  exact q
theorem idxL_int {l : List D} {i : Int} {d : D} {Q : D → Prop} (hi : 0 ≤ i) (h : l[i.toNat]? = some d) (q : Q d) : idxL l i Q := by
  have e : ((i.toNat : Nat) : Int) = i := by omega
  rw [← e]
  exact idxL_nat h q
theorem idxL_last {l : List D} {d : D} {Q : D → Prop} (q : Q d) : idxL (l ++ [d]) (-1) Q := by
  unfold idxL ixOf
  have e : ((l ++ [d]).length : Int) = (l.length : Int) + 1 := by simp
  rw [if_neg (by decide), if_pos (by omega), e]
  have e2 : (-1 + ((l.length : Int) + 1)).toNat = l.length := by omega
  rw [e2]
  simp
  exact q
def setL (n : Nat) (i : Int) (Q : Nat → Prop) : Prop := match ixOf n i with | some k => Q k | none => False
theorem setL_nat {n k : Nat} {Q : Nat → Prop} (h : k < n) (q : Q k) : setL n (k : Int) Q := by
  unfold setL
  rw [ixOf_nat h]
  exact q
theorem setL_int {n : Nat} {i : Int} {Q : Nat → Prop} (hi : 0 ≤ i) (h : i.toNat < n) (q : Q i.toNat) : setL n i Q := by
  have e : ((i.toNat : Nat) : Int) = i := by omega
  rw [← e]
  exact setL_nat h q
def idxV (x i : D) (Q : D → Prop) : Prop :=
  match x, i with
  | .tup l, .int i => idxL l i Q
  | .lst l, .int i => idxL l i Q
  | .str l, .int i => l.length ≤ LB ∧ match (ixOf l.length i).bind (l[·]?) with | some c => Q (.str [c]) | none => False
  | .scr _ ns, .int i => idxL (ns.map .int) i Q
  | .dct kvs, k => keysOk kvs k = true ∧ match lookD kvs k with | some d => Q d | none => False
  | _, _ => False
/-- a slice's bound -/
def cutAt (n d : Nat) (o : D) (Q : Nat → Prop) : Prop :=
  match o with
  | .non => Q d
  | .int v => Q (if v < 0 then (max (v + (n : Int)) 0).toNat else (min v (n : Int)).toNat)
  | _ => False
def slcV (x lo hi : D) (Q : Slot → Prop) : Prop :=
  match x with
  | .tup l => cutAt l.length 0 lo fun a => cutAt l.length l.length hi fun b => Q (.sh (.tup ((l.drop a).take (b - a))))
  | .lst l => cutAt l.length 0 lo fun a => cutAt l.length l.length hi fun b => Q (.ol ((l.drop a).take (b - a)))
  | .scr _ ns => cutAt ns.length 0 lo fun a => cutAt ns.length ns.length hi fun b => Q (.ol (((ns.map D.int).drop a).take (b - a)))
  | .str l => l.length ≤ LB ∧ cutAt l.length 0 lo fun a => cutAt l.length l.length hi fun b => Q (.sh (.str ((l.drop a).take (b - a))))
  | _ => False
def revV (x : D) (Q : Slot → Prop) : Prop :=
  match x with
  | .tup l => Q (.sh (.tup l.reverse))
  | .lst l => Q (.ol l.reverse)
  | _ => False
/-- the items that a walk comes to -/
def itemsV (x : D) (Q : List D → Prop) : Prop :=
  match x with
  | .tup l => Q l
  | .lst l => Q l
  | _ => False
def rangeD (lo hi : Int) : List D := (List.range (hi - lo).toNat).map fun (k : Nat) => D.int (lo + (k : Int))
def leD (x y : D) : Bool := !D.lt y x
/-- sorted, stable -/
def sortD (l : List D) : List D := l.mergeSort leD
/-- the different ones, in the order in which they come -/
def dedupD : List D → List D
  | [] => []
  | x :: xs => x :: (dedupD xs).filter fun y => !D.eqv x y
def minD (x : D) (xs : List D) : D := xs.foldl (fun a y => if D.lt y a then y else a) x
def maxD (x : D) (xs : List D) : D := xs.foldl (fun a y => if D.lt a y then y else a) x
/-- all of one kind -/
def allAlike (l : List D) : Prop := (∀ x ∈ l, ∀ y ∈ l, D.alike x y = true) ∧ (∀ x ∈ l, D.pl 8 x = true ∧ D.eqv x .non = false)
/-- all are tuples that hold something, or none is a tuple -/
def sortable (l : List D) : Prop := (∀ x ∈ l, ∃ y r, x = .tup (y :: r)) ∨ (∀ x ∈ l, D.isTup x = false)
def truth : D → Option Bool
  | .bl b => some b
  | _ => none
def intOf : D → Option Int
  | .int i => some i
  | _ => none
def sumL (l : List D) (Q : Int → Prop) : Prop := match l.mapM intOf with | some ns => Q ns.sum | none => False
def blsL (l : List D) (Q : List Bool → Prop) : Prop := match l.mapM truth with | some bs => Q bs | none => False
theorem mapM_int (ns : List Int) : (ns.map D.int).mapM intOf = some ns := by
  induction ns with
  | nil => rfl
  | cons n ns ih => simp [List.mapM_cons, intOf, ih]
theorem mapM_bl (bs : List Bool) : (bs.map D.bl).mapM truth = some bs := by
  induction bs with
  | nil => rfl
  | cons n ns ih => simp [List.mapM_cons, truth, ih]
theorem sumL_map {ns : List Int} {Q : Int → Prop} (q : Q ns.sum) : sumL (ns.map .int) Q := by
  unfold sumL
  rw [mapM_int]
  exact q
theorem blsL_map {bs : List Bool} {Q : List Bool → Prop} (q : Q bs) : blsL (bs.map .bl) Q := by
  unfold blsL
  rw [mapM_bl]
  exact q
@[irreducible] def minL (l : List D) (Q : D → Prop) : Prop := match l with
  | x :: xs => allAlike (x :: xs) ∧ Q (minD x xs)
  | [] => False
@[irreducible] def maxL (l : List D) (Q : D → Prop) : Prop := match l with
  | x :: xs => allAlike (x :: xs) ∧ Q (maxD x xs)
  | [] => False
def insS (x : Int) : List Int → List Int
  | [] => [x]
  | y :: ys => if x < y then x :: y :: ys else if x = y then y :: ys else y :: insS x ys
/-- the different ones, in order -/
def sortSet : List Int → List Int
  | [] => []
  | x :: xs => insS x (sortSet xs)
theorem mem_insS {x y : Int} : ∀ {l : List Int}, y ∈ insS x l ↔ y = x ∨ y ∈ l
  | [] => by simp [insS]
  | z :: zs => by
    unfold insS
    split
    · simp
    · split
      · rename_i h; subst h; simp
      · simp [mem_insS (l := zs)]
        constructor
        · rintro (h | h | h) <;> simp [h]
        · rintro (h | h | h) <;> simp [h]
theorem sorted_insS {x : Int} : ∀ {l : List Int}, l.Pairwise (· < ·) → (insS x l).Pairwise (· < ·)
  | [], _ => by simp [insS]
  | z :: zs, h => by
    obtain ⟨h1, h2⟩ := List.pairwise_cons.mp h
    unfold insS
    split
    · rename_i hx
      refine List.pairwise_cons.mpr ⟨fun y hy => ?_, h⟩
      rcases List.mem_cons.mp hy with e | e
      · omega
      · have := h1 y e; omega
    · split
      · exact h
      · rename_i h3 h4
        refine List.pairwise_cons.mpr ⟨fun y hy => ?_, sorted_insS h2⟩
        rcases mem_insS.mp hy with e | e
        · omega
        · exact h1 y e
theorem mem_sortSet {y : Int} : ∀ {l : List Int}, y ∈ sortSet l ↔ y ∈ l
  | [] => by simp [sortSet]
  | x :: xs => by rw [sortSet, mem_insS, mem_sortSet, List.mem_cons]
theorem sorted_sortSet : ∀ l : List Int, (sortSet l).Pairwise (· < ·)
  | [] => List.Pairwise.nil
  | x :: xs => by rw [sortSet]; exact sorted_insS (sorted_sortSet xs)
theorem sorted_uniq : ∀ {a b : List Int}, a.Pairwise (· < ·) → b.Pairwise (· < ·) → (∀ k, k ∈ a ↔ k ∈ b) → a = b
  | [], [], _, _, _ => rfl
  | [], y :: ys, _, _, h => absurd ((h y).mpr (by simp)) (by simp)
  | x :: xs, [], _, _, h => absurd ((h x).mp (by simp)) (by simp)
  | x :: xs, y :: ys, ha, hb, h => by
    obtain ⟨a1, a2⟩ := List.pairwise_cons.mp ha
    obtain ⟨b1, b2⟩ := List.pairwise_cons.mp hb
    have e : x = y := by
      rcases List.mem_cons.mp ((h x).mp (by simp)) with e | e
      · exact e
      · rcases List.mem_cons.mp ((h y).mpr (by simp)) with e' | e'
        · exact e'.symm
        · have := a1 y e'; have := b1 x e; omega
    subst e
    congr 1
    refine sorted_uniq a2 b2 fun k => ⟨fun hk => ?_, fun hk => ?_⟩
    · rcases List.mem_cons.mp ((h k).mp (List.mem_cons_of_mem _ hk)) with e | e
      · subst e; have := a1 k hk; omega
      · exact e
    · rcases List.mem_cons.mp ((h k).mpr (List.mem_cons_of_mem _ hk)) with e | e
      · subst e; have := b1 k hk; omega
      · exact e
/-- sorted(set(..)) of few ints -/
@[irreducible] def sisL (l : List D) (Q : List Int → Prop) : Prop := match l.mapM intOf with | some ns => ns.length < 64 ∧ Q (sortSet ns) | none => False
theorem sisL_map {ns : List Int} {Q : List Int → Prop} (h : ns.length < 64) (q : Q (sortSet ns)) : sisL (ns.map .int) Q := by
  unfold sisL
  rw [mapM_int]
  exact ⟨h, q⟩
def bltV (b : Blt) (ds : List D) (Q : Slot → Prop) : Prop :=
  match b, ds with
  | .len, [.tup l] => Q (.sh (.int l.length))
  | .len, [.lst l] => Q (.sh (.int l.length))
  | .len, [.dct l] => Q (.sh (.int l.length))
  | .len, [.str l] => l.length ≤ LB ∧ Q (.sh (.int l.length))
  | .tuple, [.tup l] => Q (.sh (.tup l))
  | .tuple, [.lst l] => Q (.sh (.tup l))
  | .list, [.tup l] => Q (.ol l)
  | .list, [.lst l] => Q (.ol l)
  | .list, [.dct l] => Q (.ol (l.map (·.1)))
  | .len, [.scr _ ns] => Q (.sh (.int ns.length))
  | .list, [.scr _ ns] => Q (.ol (ns.map .int))
  | .sorted, [.lst l] => allAlike l ∧ sortable l ∧ Q (.ol (sortD l))
  | .sorted, [.tup l] => allAlike l ∧ sortable l ∧ Q (.ol (sortD l))
  | .sortedSet, [.tup l] => sisL l fun ns => Q (.ol (ns.map .int))
  | .min, [.lst l] => minL l fun d => Q (.sh d)
  | .min, [.tup l] => minL l fun d => Q (.sh d)
  | .max, [.lst l] => maxL l fun d => Q (.sh d)
  | .max, [.tup l] => maxL l fun d => Q (.sh d)
  | .min, [.int i, .int j] => Q (.sh (.int (if j < i then j else i)))
  | .max, [.int i, .int j] => Q (.sh (.int (if i < j then j else i)))
  | .max, [.int i, .int j, .int k] => Q (.sh (.int (if (if i < j then j else i) < k then k else (if i < j then j else i))))
  | .sum, [.lst l] => sumL l fun n => Q (.sh (.int n))
  | .abs, [.int i] => Q (.sh (.int (if i < 0 then -i else i)))
  | .int, [.int i] => Q (.sh (.int i))
  | .int, [.bl b] => Q (.sh (.int (if b then 1 else 0)))
  | .all, [.lst l] => blsL l fun bs => Q (.sh (.bl (bs.all id)))
  | .any, [.lst l] => blsL l fun bs => Q (.sh (.bl (bs.any id)))
  | _, _ => False
/-- range(..), walked -/
def rngV (ds : List D) (Q : List D → Prop) : Prop :=
  match ds with
  | [.int j] => j ≤ LB ∧ -1000000 ≤ j ∧ Q (rangeD 0 j)
  | [.int i, .int j] => j ≤ LB ∧ -1000000 ≤ i ∧ i ≤ LB ∧ -1000000 ≤ j ∧ Q (rangeD i j)
  | _ => False
def fndL (l : List D) (y : D) (Q : Nat → Prop) : Prop := match l.findIdx? (fun z => D.eqv z y) with | some k => Q k | none => False
theorem fndL_of {l : List D} {y : D} {k : Nat} {Q : Nat → Prop} (h : l.findIdx? (fun z => D.eqv z y) = some k) (q : Q k) : fndL l y Q := by
  unfold fndL
  rw [h]
  exact q
/-- methods that change nothing -/
def mthV (m : Mth) (x : D) (ds : List D) (Q : Slot → Prop) : Prop :=
  match m, x, ds with
  | .index, .tup l, [y] => D.pl 9 y = true ∧ D.pls 9 l = true ∧ fndL l y fun k => Q (.sh (.int k))
  | .index, .lst l, [y] => D.pl 9 y = true ∧ D.pls 9 l = true ∧ fndL l y fun k => Q (.sh (.int k))
  | .count, .tup l, [y] => D.pl 9 y = true ∧ D.pls 9 l = true ∧ Q (.sh (.int (l.countP fun z => D.eqv z y)))
  | .count, .lst l, [y] => D.pl 9 y = true ∧ D.pls 9 l = true ∧ Q (.sh (.int (l.countP fun z => D.eqv z y)))
  | .get, .dct kvs, [k, d] => keysOk kvs k = true ∧ Q (.sh ((lookD kvs k).getD d))
  | _, _, _ => False
theorem bif_by {b : Bool} {A B : Prop} (h1 : b = true → A) (h2 : b = false → B) : bif b then A else B := by
  cases b with
  | true => exact h1 rfl
  | false => exact h2 rfl
/-! ### weakest preconditions -/
structure Ctx where
  /-- the module's constants, and its functions as values -/
  G : Nat → Option D
  /-- what calls do -/
  F : Nat → List D → (D → Prop) → Prop
def onB (s : Slot) (Q : Bool → Prop) : Prop :=
  match s with
  | .sh (.bl b) => Q b
  | _ => False
def live (ρ : Env) (i : Nat) : Prop :=
  match ρ[i]? with
  | some .un => False
  | none => False
  | _ => True
def opd (e : Ex) (k : (Slot → Env → Prop) → Prop) (ρ : Env) (Q : Opd → Env → Prop) : Prop :=
  match e with
  | .var i => live ρ i ∧ Q (.r i) ρ
  | _ => k fun s ρ' => Q (.v s.val) ρ'
def partD : Option Int → D
  | none => .non
  | some i => .int i
/-- a slice's bound -/
def prt (e : Ex) (k : (Slot → Env → Prop) → Prop) (ρ : Env) (Q : Option Int → Env → Prop) : Prop :=
  match e with
  | .noPart => Q none ρ
  | _ => k fun s ρ' => match s with
    | .sh (.int i) => Q (some i) ρ'
    | _ => False
def varX (ρ : Env) (i : Nat) (Q : Slot → Env → Prop) : Prop :=
  match ρ[i]? with
  | some (.sh d) => Q (.sh d) ρ
  | some (.ol l) => Q (.sh (.lst l)) (ρ.set i (.sh (.lst l)))
  | some (.od l) => Q (.sh (.dct l)) (ρ.set i (.sh (.dct l)))
  | _ => False
def wipeE (ρ : Env) : List Nat → Env
  | [] => ρ
  | i :: is => (wipeE ρ is).set i .un
def freezeI (ρ : Env) : List Nat → Env
  | [] => ρ
  | i :: is => freeze (freezeI ρ is) i
/-- the slots is of ρ1 back in ρ2 -/
def backE (ρ1 ρ2 : Env) : List Nat → Env
  | [] => ρ2
  | i :: is => (backE ρ1 ρ2 is).set i (ρ1[i]?.getD .un)
def lcW (step : D → Env → (Option D → Env → Prop) → Prop) : List D → List D → Env → (List D → Env → Prop) → Prop
  | [], acc, ρ, Q => Q acc ρ
  | x :: xs, acc, ρ, Q => step x ρ fun r ρ' => lcW step xs (match r with | some d => acc ++ [d] | none => acc) ρ' Q
def dcW (step : D → Env → (Option (D × D) → Env → Prop) → Prop) : List D → List (D × D) → Env → (List (D × D) → Env → Prop) → Prop
  | [], acc, ρ, Q => Q acc ρ
  | x :: xs, acc, ρ, Q => step x ρ fun r ρ' => match r with
    | some p => keysOk acc p.1 = true ∧ dcW step xs (putD acc p.1 p.2) ρ' Q
    | none => dcW step xs acc ρ' Q
def ownL (ρ : Env) (k : Nat) : Prop :=
  match ρ[k]? with
  | some (.ol _) => True
  | _ => False
def ownD (ρ : Env) (k : Nat) : Prop :=
  match ρ[k]? with
  | some (.od _) => True
  | _ => False
/-- what has methods -/
def kindD : D → Nat
  | .lst _ => 1
  | .tup _ => 2
  | _ => 0
/-- append to the list at k -/
def appK (ρ : Env) (k : Nat) (d : D) (Q : Slot → Env → Prop) : Prop :=
  match ρ[k]? with
  | some (.ol l) => l.length < LB ∧ Q (.sh .non) (ρ.set k (.ol (l ++ [d])))
  | _ => False
def extK (ρ : Env) (k : Nat) (d : D) (Q : Slot → Env → Prop) : Prop :=
  match ρ[k]?, d with
  | some (.ol l), .lst m => l.length + m.length < LB ∧ Q (.sh .non) (ρ.set k (.ol (l ++ m)))
  | _, _ => False
def popL (l : List D) (Q : D → Prop) : Prop := match l[l.length - 1]? with | some d => Q d | none => False
def popK (ρ : Env) (k : Nat) (Q : Slot → Env → Prop) : Prop :=
  match ρ[k]? with
  | some (.ol l) => popL l fun d => Q (.sh d) (ρ.set k (.ol l.dropLast))
  | _ => False
def putAll (kvs : List (D × D)) (more : List (D × D)) : List (D × D) := more.foldl (fun acc p => putD acc p.1 p.2) kvs
def updK (ρ : Env) (k : Nat) (d : D) (Q : Slot → Env → Prop) : Prop :=
  match ρ[k]?, d with
  | some (.od l), .dct m => l.length + m.length < LB ∧ (∀ p ∈ l ++ m, ∀ q ∈ l ++ m, keysOk [(q.1, .non)] p.1 = true) ∧ Q (.sh .non) (ρ.set k (.od (putAll l m)))
  | _, _ => False
/-- the item i of the list or dict at k is now d -/
def setK (ρ : Env) (k : Nat) (i d : D) (Q : Env → Prop) : Prop :=
  match ρ[k]?, i with
  | some (.ol l), .int j => setL l.length j fun n => Q (ρ.set k (.ol (l.set n d)))
  | some (.od l), key => l.length < LB ∧ keysOk l key = true ∧ Q (ρ.set k (.od (putD l key d)))
  | _, _ => False
/-- the operands' lists may be known elsewhere behind a call, if its value may hold them -/
def behind (ρ : Env) (os : List Opd) (d : D) : Env := if d.imm = true then ρ else freezes ρ os
mutual
def wX (Φ : Ctx) : Ex → Env → (Slot → Env → Prop) → Prop
  | .lit d, ρ, Q => Q (.sh d) ρ
  | .var i, ρ, Q => varX ρ i Q
  | .glb g, ρ, Q => match Φ.G g with | some d => Q (.sh d) ρ | none => False
  | .bin o a b, ρ, Q => opd a (wX Φ a ρ) ρ fun x ρ1 => opd b (wX Φ b ρ1) ρ1 fun y ρ2 => x.get ρ2 fun x' => y.get ρ2 fun y' => binV o x' y' fun s => Q s ρ2
  | .neg a, ρ, Q => wX Φ a ρ fun s ρ1 => match s with | .sh (.int i) => Q (.sh (.int (-i))) ρ1 | _ => False
  | .not a, ρ, Q => wX Φ a ρ fun s ρ1 => onB s fun b => Q (.sh (.bl (!b))) ρ1
  | .cmp o a b, ρ, Q => opd a (wX Φ a ρ) ρ fun x ρ1 => opd b (wX Φ b ρ1) ρ1 fun y ρ2 => x.get ρ2 fun x' => y.get ρ2 fun y' => cmpV o x' y' fun b => Q (.sh (.bl b)) ρ2
  | .chn o1 o2 a b c, ρ, Q => opd a (wX Φ a ρ) ρ fun x ρ1 => opd b (wX Φ b ρ1) ρ1 fun y ρ2 => x.get ρ2 fun x' => y.get ρ2 fun y' => cmpV o1 x' y' fun b1 =>
      bif b1 then opd c (wX Φ c ρ2) ρ2 fun z ρ3 => y.get ρ3 fun y' => z.get ρ3 fun z' => cmpV o2 y' z' fun b2 => Q (.sh (.bl b2)) ρ3 else Q (.sh (.bl false)) ρ2
  | .and a b, ρ, Q => wX Φ a ρ fun s ρ1 => onB s fun b1 => bif b1 then wX Φ b ρ1 fun s2 ρ2 => onB s2 fun b2 => Q (.sh (.bl b2)) ρ2 else Q (.sh (.bl false)) ρ1
  | .or a b, ρ, Q => wX Φ a ρ fun s ρ1 => onB s fun b1 => bif b1 then Q (.sh (.bl true)) ρ1 else wX Φ b ρ1 fun s2 ρ2 => onB s2 fun b2 => Q (.sh (.bl b2)) ρ2
  | .ife c a b, ρ, Q => wX Φ c ρ fun s ρ1 => onB s fun t => bif t then wX Φ a ρ1 Q else wX Φ b ρ1 Q
  | .tup es, ρ, Q => wVs Φ es ρ fun ds ρ1 => Q (.sh (.tup ds)) ρ1
  | .lst es, ρ, Q => wVs Φ es ρ fun ds ρ1 => Q (.ol ds) ρ1
  | .dct kvs, ρ, Q => wKs Φ kvs [] ρ fun kvs ρ1 => Q (.od kvs) ρ1
  | .idx a i, ρ, Q => opd a (wX Φ a ρ) ρ fun x ρ1 => opd i (wX Φ i ρ1) ρ1 fun y ρ2 => x.get ρ2 fun x' => y.get ρ2 fun y' => idxV x' y' fun d => Q (.sh d) ρ2
  | .slc a lo hi, ρ, Q => opd a (wX Φ a ρ) ρ fun x ρ1 => prt lo (wX Φ lo ρ1) ρ1 fun y ρ2 => prt hi (wX Φ hi ρ2) ρ2 fun z ρ3 => x.get ρ3 fun x' => slcV x' (partD y) (partD z) fun s => Q s ρ3
  | .rev a, ρ, Q => opd a (wX Φ a ρ) ρ fun x ρ1 => x.get ρ1 fun x' => revV x' fun s => Q s ρ1
  | .noPart, ρ, Q => Q (.sh .non) ρ
  | .call f es, ρ, Q => wOs Φ es ρ fun os ρ1 => gets ρ1 os fun ds => Φ.F f ds fun d => Q (.sh d) (behind ρ1 os d)
  | .callv f es, ρ, Q => wX Φ f ρ fun s ρ1 => match s with
    | .sh (.fn g caps) => wOs Φ es ρ1 fun os ρ2 => gets ρ2 os fun ds => Φ.F g (caps ++ ds) fun d => Q (.sh d) (behind ρ2 os d)
    | _ => False
  | .blt b es, ρ, Q => wOs Φ es ρ fun os ρ1 => gets ρ1 os fun ds => bltV b ds fun s => Q s ρ1
  | .rng t es, ρ, Q => wOs Φ es ρ fun os ρ1 => gets ρ1 os fun ds => rngV ds fun l => Q (if t then .sh (.tup l) else .ol l) ρ1
  | .mth m o es, ρ, Q => match m, o, es with
    | .append, .var k, .c e .n => ownL ρ k ∧ wX Φ e ρ fun s ρ1 => appK ρ1 k s.val Q
    | .extend, .var k, .c e .n => ownL ρ k ∧ wX Φ e ρ fun s ρ1 => extK ρ1 k s.val Q
    | .update, .var k, .c e .n => ownD ρ k ∧ wX Φ e ρ fun s ρ1 => updK ρ1 k s.val Q
    | .pop, .var k, .n => popK ρ k Q
    | m, o, es => opd o (wX Φ o ρ) ρ fun x ρ1 => x.get ρ1 fun x0 => kindD x0 ≠ 0 ∧ wOs Φ es ρ1 fun os ρ2 => x.get ρ2 fun x' => kindD x' = kindD x0 ∧ gets ρ2 os fun ds => mthV m x' ds fun s => Q s ρ2
  | .lc own elt t it c, ρ, Q => wI Φ it ρ fun items ρ1 =>
      lcW (fun x ρ' K => wT Φ t (.sh x) ρ' fun ρ2 => wCs Φ c ρ2 fun b ρ3 => bif b then wX Φ elt ρ3 fun s ρ4 => K (some s.val) (wipeE ρ4 own) else K none (wipeE ρ3 own)) items [] (wipeE (freezeI ρ1 own) own)
        fun ds ρ2 => Q (.ol ds) (backE (freezeI ρ1 own) ρ2 own)
  | .dc own k v t it c, ρ, Q => wI Φ it ρ fun items ρ1 =>
      dcW (fun x ρ' K => wT Φ t (.sh x) ρ' fun ρ2 => wCs Φ c ρ2 fun b ρ3 => bif b then wX Φ k ρ3 fun s ρ4 => wX Φ v ρ4 fun s' ρ5 => K (some (s.val, s'.val)) (wipeE ρ5 own) else K none (wipeE ρ3 own)) items [] (wipeE (freezeI ρ1 own) own)
        fun kvs ρ2 => Q (.od kvs) (backE (freezeI ρ1 own) ρ2 own)
  | .lam id caps, ρ, Q => gets ρ (caps.map .r) fun ds => Q (.sh (.fn id ds)) (freezeI ρ caps)
  | .minKey _ _ _ _, _, _ => False
/-- operands, from the left -/
def wOs (Φ : Ctx) : Exs → Env → (List Opd → Env → Prop) → Prop
  | .n, ρ, Q => Q [] ρ
  | .c e es, ρ, Q => opd e (wX Φ e ρ) ρ fun x ρ1 => wOs Φ es ρ1 fun xs ρ2 => Q (x :: xs) ρ2
/-- values, from the left -/
def wVs (Φ : Ctx) : Exs → Env → (List D → Env → Prop) → Prop
  | .n, ρ, Q => Q [] ρ
  | .c e es, ρ, Q => wX Φ e ρ fun s ρ1 => wVs Φ es ρ1 fun ds ρ2 => Q (s.val :: ds) ρ2
/-- a dict's display -/
def wKs (Φ : Ctx) : Kvs → List (D × D) → Env → (List (D × D) → Env → Prop) → Prop
  | .n, acc, ρ, Q => Q acc ρ
  | .c k v kvs, acc, ρ, Q => wX Φ k ρ fun s ρ1 => wX Φ v ρ1 fun s' ρ2 => keysOk acc s.val = true ∧ wKs Φ kvs (putD acc s.val s'.val) ρ2 Q
/-- tests behind a comprehension's for -/
def wCs (Φ : Ctx) : Exs → Env → (Bool → Env → Prop) → Prop
  | .n, ρ, Q => Q true ρ
  | .c e .n, ρ, Q => wX Φ e ρ fun s ρ1 => onB s fun b => Q b ρ1
  | _, _, _ => False
/-- what a for walks -/
def wI (Φ : Ctx) : It → Env → (List D → Env → Prop) → Prop
  | .range es, ρ, Q => wOs Φ es ρ fun os ρ1 => gets ρ1 os fun ds => rngV ds fun l => Q l ρ1
  | .zip es, ρ, Q => wOs Φ es ρ fun os ρ1 => gets ρ1 os fun ds => match ds with
    | [.tup l, .tup m] => Q (List.zipWith (fun a b => .tup [a, b]) l m) (freezes ρ1 os)
    | [.lst l, .lst m] => Q (List.zipWith (fun a b => .tup [a, b]) l m) (freezes ρ1 os)
    | _ => False
  | .e e, ρ, Q => wX Φ e ρ fun s ρ1 => itemsV s.val fun l => Q l ρ1
/-- a target takes a value -/
def wT (Φ : Ctx) : Tg → Slot → Env → (Env → Prop) → Prop
  | .nm i, s, ρ, Q => Q (ρ.set i s)
  | .tp ts, s, ρ, Q => match s.val with
    | .tup l => l.length = ts.len ∧ wTs Φ ts l ρ Q
    | _ => False
  | .sb k i, s, ρ, Q => live ρ k ∧ wX Φ i ρ fun s' ρ1 => setK ρ1 k s'.val s.val Q
def wTs (Φ : Ctx) : Tgs → List D → Env → (Env → Prop) → Prop
  | .n, [], ρ, Q => Q ρ
  | .c t ts, d :: ds, ρ, Q => wT Φ t (.sh d) ρ fun ρ1 => wTs Φ ts ds ρ1 Q
  | _, _, _, _ => False
end
structure Ends where
  nx : Env → Prop
  rt : D → Env → Prop
  bk : Env → Prop
  ct : Env → Prop
def whW (test : Env → (Bool → Env → Prop) → Prop) (body : Env → Ends → Prop) (E : Ends) : Nat → Env → Prop
  | 0, _ => False
  | n + 1, ρ => test ρ fun b ρ1 => bif b then body ρ1 ⟨whW test body E n, E.rt, E.nx, whW test body E n⟩ else E.nx ρ1
def foW (body : D → Env → Ends → Prop) (E : Ends) : List D → Env → Prop
  | [], ρ => E.nx ρ
  | x :: xs, ρ => body x ρ ⟨foW body E xs, E.rt, E.nx, foW body E xs⟩
mutual
def wS (Φ : Ctx) : St → Env → Ends → Prop
  | .asg t e, ρ, E => wX Φ e ρ fun s ρ1 => wT Φ t s ρ1 E.nx
  | .aug i o e, ρ, E => peek ρ i fun x => wX Φ e ρ fun s ρ1 => match o, x, s.val with
    | .add, .int a, .int b => E.nx (ρ1.set i (.sh (.int (a + b))))
    | .sub, .int a, .int b => E.nx (ρ1.set i (.sh (.int (a - b))))
    | .mul, .int a, .int b => okMul a b ∧ E.nx (ρ1.set i (.sh (.int (a * b))))
    | _, _, _ => False
  | .augS k i o e, ρ, E => live ρ k ∧ wX Φ i ρ fun s1 ρ1 => ownL ρ1 k ∧ peek ρ1 k fun x => idxV x s1.val fun d => wX Φ e ρ1 fun s2 ρ2 => match o, d, s2.val with
    | .add, .int a, .int b => setK ρ2 k s1.val (.int (a + b)) E.nx
    | _, _, _ => False
  | .exp e, ρ, E => wX Φ e ρ fun _ ρ1 => E.nx ρ1
  | .ret e, ρ, E => wX Φ e ρ fun s ρ1 => E.rt s.val ρ1
  | .iff c a b, ρ, E => wX Φ c ρ fun s ρ1 => onB s fun t => bif t then wSs Φ a ρ1 E else wSs Φ b ρ1 E
  | .whl c b, ρ, E => ∃ n, whW (fun ρ Q => wX Φ c ρ fun s ρ1 => onB s fun t => Q t ρ1) (fun ρ E => wSs Φ b ρ E) E n ρ
  | .for t it b, ρ, E => wI Φ it ρ fun items ρ1 => foW (fun x ρ E => wT Φ t (.sh x) ρ fun ρ' => wSs Φ b ρ' E) E items ρ1
  | .brk, ρ, E => E.bk ρ
  | .cnt, ρ, E => E.ct ρ
  | .rse, _, _ => False
def wSs (Φ : Ctx) : Sts → Env → Ends → Prop
  | .n, ρ, E => E.nx ρ
  | .c s ss, ρ, E => wS Φ s ρ ⟨fun ρ1 => wSs Φ ss ρ1 E, E.rt, E.bk, E.ct⟩
end
/-- a def: its slots in all, its parameters, its body -/
structure Fn where
  slots : Nat
  pars : Nat
  body : Sts
  deriving Inhabited
def wF (Φ : Ctx) (f : Fn) (ds : List D) (Q : D → Prop) : Prop :=
  ds.length = f.pars ∧ f.pars ≤ f.slots ∧ wSs Φ f.body (ds.map Slot.sh ++ List.replicate (f.slots - f.pars) .un) ⟨fun _ => Q .non, fun d _ => Q d, fun _ => False, fun _ => False⟩
/-- a program: its constants, its defs -/
structure Prog where
  G : Nat → Option D
  fns : Nat → Option Fn
/-- calls to depth n; the call of 0 draws a number below its argument -/
def run (P : Prog) : Nat → Nat → List D → (D → Prop) → Prop
  | 0, f, ds, Q => match f, ds with
    | 0, [.pool, .int m] => 0 < m ∧ m < 2 ^ 31 ∧ ∀ v : Int, 0 ≤ v → v < m → Q (.int v)
    | _, _ => False
  | n + 1, f, ds, Q => match f, ds with
    | 0, [.pool, .int m] => 0 < m ∧ m < 2 ^ 31 ∧ ∀ v : Int, 0 ≤ v → v < m → Q (.int v)
    | 0, _ => False
    | f, ds => match P.fns f with
      | some fn => wF ⟨P.G, run P n⟩ fn ds Q
      | none => False
end Wg
set_option Elab.async false
set_option linter.all false
set_option maxRecDepth 100000
/-! WgS: how the data of Wg lie in the abstract heap. -/
namespace WgS
open PySem PySem.Spec PyProof.Rows L2
open Wg (D Slot Opd Ex Exs Tg Tgs It Kvs Sts BOp COp Blt Mth LB)
/-- a tuple of the written part -/
def KTup (K : PySem.W.Frag) (a : Addr) (xs : List V) : Prop :=
  ∃ (o : Obj) (its : Array Value) (n : Nat), K.lookup a = some o ∧ o.cls = .type "tuple" ∧ o.dict = none ∧ o.data = .seq its n ∧ its.size ≤ sizeLine ∧ Vals xs its.toList
/-- what is fixed: the written part, the pool, the functions -/
structure Wd where
  K : PySem.W.Frag
  P : Option Addr
  /-- the pool's cells -/
  ps : Addr
  fn : Nat → Option Addr
  /-- names that keep their values -/
  keep : Nat → Option V := fun _ => none
abbrev AS := Addr → Prop
mutual
inductive Rep (W : Wd) (S : AS) (H : Hp) : V → D → Prop
  | non : Rep W S H .non .non
  | bl (b : Bool) : Rep W S H (.bl b) (.bl b)
  | int (i : Int) : Rep W S H (.int i) (.int i)
  | str (s : List Nat) : Rep W S H (.str ⟨s.toArray⟩) (.str s)
  | tup {a : Addr} {o : Obj} {xs : List V} {ds : List D} : S a → H a = some (.frz o (.tup xs)) → o.dict = none → Reps W S H xs ds → Rep W S H (.ref a) (.tup ds)
  | ktup {a : Addr} {xs : List V} {ds : List D} : KTup W.K a xs → Reps W S H xs ds → Rep W S H (.ref a) (.tup ds)
  | lst {a : Addr} {xs : List V} {ds : List D} : S a → H a = some (.lst xs) → Reps W S H xs ds → Rep W S H (.ref a) (.lst ds)
  | fn {f : Nat} {a : Addr} : W.fn f = some a → Rep W S H (.ref a) (.fn f [])
  | pool {p : Addr} : W.P = some p → Rep W S H (.ref p) .pool
  | scr {k : Nat} {a : Addr} {ns : List Int} : (k ≠ 0 → W.fn k = some a) → S a → Rd H a (.lst (ns.map V.int)) → Rep W S H (.ref a) (.scr k ns)
  | kscr {k : Nat} {a : Addr} {ns : List Int} : (k ≠ 0 → W.fn k = some a) → (∀ H, SqL W.K H a (ns.map V.int)) → Rep W S H (.ref a) (.scr k ns)
inductive Reps (W : Wd) (S : AS) (H : Hp) : List V → List D → Prop
  | nil : Reps W S H [] []
  | cons {v : V} {vs : List V} {d : D} {ds : List D} : Rep W S H v d → Reps W S H vs ds → Reps W S H (v :: vs) (d :: ds)
end
section
variable {W : Wd} {S S' : AS} {H H' : Hp}
mutual
theorem Rep.mono (k : ∀ a, S a → S' a ∧ H' a = H a) : ∀ (d : D) (v : V), Rep W S H v d → Rep W S' H' v d
  | .non, _, h => by cases h; exact .non
  | .bl _, _, h => by cases h; exact .bl _
  | .int _, _, h => by cases h; exact .int _
  | .str _, _, h => by cases h; exact .str _
  | .tup ds, _, h => by
    cases h with
    | tup hs ha hd hr => exact .tup (k _ hs).1 ((k _ hs).2.trans ha) hd (Reps.mono k ds _ hr)
    | ktup hk hr => exact .ktup hk (Reps.mono k ds _ hr)
  | .lst ds, _, h => by
    cases h with
    | lst hs ha hr => exact .lst (k _ hs).1 ((k _ hs).2.trans ha) (Reps.mono k ds _ hr)
  | .dct _, _, h => by cases h
  | .fn _ _, _, h => by cases h with | fn e => exact .fn e
  | .pool, _, h => by cases h with | pool e => exact .pool e
  | .scr _ _, _, h => by
    cases h with
    | scr hi hs ha => exact .scr hi (k _ hs).1 (by unfold Rd; rw [(k _ hs).2]; exact ha)
    | kscr hi hk => exact .kscr hi hk
theorem Reps.mono (k : ∀ a, S a → S' a ∧ H' a = H a) : ∀ (ds : List D) (vs : List V), Reps W S H vs ds → Reps W S' H' vs ds
  | [], _, h => by cases h; exact .nil
  | d :: ds, _, h => by
    cases h with
    | cons h1 h2 => exact .cons (Rep.mono k d _ h1) (Reps.mono k ds _ h2)
end
theorem Reps.length : ∀ {vs : List V} {ds : List D}, Reps W S H vs ds → vs.length = ds.length
  | _, _, .nil => rfl
  | _, _, .cons _ t => congrArg (· + 1) (Reps.length t)
theorem Reps.get : ∀ {vs : List V} {ds : List D} {i : Nat} {d : D}, Reps W S H vs ds → ds[i]? = some d → ∃ v, vs[i]? = some v ∧ Rep W S H v d
  | _, _, _, _, .nil, e => by simp at e
  | _, _, 0, _, .cons r _, e => by simp at e; subst e; exact ⟨_, rfl, r⟩
  | _, _, i + 1, d, .cons _ t, e => by
    obtain ⟨v, h1, h2⟩ := Reps.get (i := i) (d := d) t (by simpa using e)
    exact ⟨v, by simpa using h1, h2⟩
theorem Reps.get' : ∀ {vs : List V} {ds : List D} {i : Nat} {v : V}, Reps W S H vs ds → vs[i]? = some v → ∃ d, ds[i]? = some d ∧ Rep W S H v d
  | _, _, _, _, .nil, e => by simp at e
  | _, _, 0, _, .cons r _, e => by simp at e; subst e; exact ⟨_, rfl, r⟩
  | _, _, i + 1, v, .cons _ t, e => by
    obtain ⟨d, h1, h2⟩ := Reps.get' (i := i) (v := v) t (by simpa using e)
    exact ⟨d, by simpa using h1, h2⟩
theorem Reps.append : ∀ {vs us : List V} {ds es : List D}, Reps W S H vs ds → Reps W S H us es → Reps W S H (vs ++ us) (ds ++ es)
  | _, _, _, _, .nil, s => s
  | _, _, _, _, .cons r t, s => .cons r (Reps.append t s)
theorem Reps.take : ∀ {vs : List V} {ds : List D} (n : Nat), Reps W S H vs ds → Reps W S H (vs.take n) (ds.take n)
  | _, _, 0, _ => .nil
  | _, _, _ + 1, .nil => .nil
  | _, _, n + 1, .cons r t => .cons r (Reps.take n t)
theorem Reps.drop : ∀ {vs : List V} {ds : List D} (n : Nat), Reps W S H vs ds → Reps W S H (vs.drop n) (ds.drop n)
  | _, _, 0, r => r
  | _, _, _ + 1, .nil => .nil
  | _, _, n + 1, .cons _ t => Reps.drop n t
theorem Reps.set {v : V} {d : D} (r : Rep W S H v d) : ∀ {vs : List V} {ds : List D} (i : Nat), Reps W S H vs ds → Reps W S H (vs.set i v) (ds.set i d)
  | _, _, _, .nil => .nil
  | _, _, 0, .cons _ t => .cons r t
  | _, _, i + 1, .cons q t => .cons q (Reps.set r i t)
theorem Reps.rev : ∀ {vs : List V} {ds : List D}, Reps W S H vs ds → Reps W S H vs.reverse ds.reverse
  | _, _, .nil => .nil
  | _, _, .cons r t => by
    rw [List.reverse_cons, List.reverse_cons]
    exact Reps.append (Reps.rev t) (.cons r .nil)
theorem Reps.rep {vs : List V} {ds : List D} (h : Reps W S H vs ds) : ∀ k : Nat, Reps W S H (List.replicate k vs).flatten (List.replicate k ds).flatten
  | 0 => .nil
  | k + 1 => by
    rw [List.replicate_succ, List.replicate_succ, List.flatten_cons, List.flatten_cons]
    exact Reps.append h (Reps.rep h k)
theorem Reps.dropLast {vs : List V} {ds : List D} (h : Reps W S H vs ds) : Reps W S H vs.dropLast ds.dropLast := by
  rw [List.dropLast_eq_take, List.dropLast_eq_take, h.length]
  exact h.take _
theorem Reps.ints : ∀ (ns : List Int), Reps W S H (ns.map V.int) (ns.map D.int)
  | [] => .nil
  | n :: ns => .cons (.int n) (Reps.ints ns)
theorem Reps.snoc {vs : List V} {ds : List D} {v : V} {d : D} (h : Reps W S H vs ds) (r : Rep W S H v d) : Reps W S H (vs ++ [v]) (ds ++ [d]) := h.append (.cons r .nil)
/-- a value whose top alone may be a list of its own -/
def RepT (W : Wd) (S : AS) (H : Hp) (v : V) (d : D) : Prop :=
  match d with
  | .lst l => ∃ a xs, v = .ref a ∧ H a = some (.lst xs) ∧ Reps W S H xs l
  | d => Rep W S H v d
theorem Rep.top {v : V} {d : D} (h : Rep W S H v d) : RepT W S H v d := by
  cases h with
  | tup hs ha hd hr => exact .tup hs ha hd hr
  | ktup hk hr => exact .ktup hk hr
  | lst hs ha hr => exact ⟨_, _, rfl, ha, hr⟩
  | non => exact .non
  | bl b => exact .bl b
  | int i => exact .int i
  | str s => exact .str s
  | fn e => exact .fn e
  | pool e => exact .pool e
  | scr hi hs ha => exact .scr hi hs ha
  | kscr hi hk => exact .kscr hi hk
theorem Rep.scrv {v : V} {k : Nat} {ns : List Int} (h : Rep W S H v (.scr k ns)) : ∃ a, v = .ref a ∧ SqL W.K H a (ns.map V.int) := by
  cases h with
  | scr hi hs ha => exact ⟨_, rfl, .inl ha⟩
  | kscr hi hk => exact ⟨_, rfl, hk _⟩
theorem RepT.lst {v : V} {l : List D} (h : RepT W S H v (.lst l)) : ∃ a xs, v = .ref a ∧ H a = some (.lst xs) ∧ Reps W S H xs l := h
theorem Rep.tupv {v : V} {l : List D} (h : Rep W S H v (.tup l)) : ∃ a xs, v = .ref a ∧ SqT W.K H a xs ∧ Reps W S H xs l := by
  cases h with
  | tup hs ha hd hr => exact ⟨_, _, rfl, .inl (.inr ⟨_, ha⟩), hr⟩
  | ktup hk hr => exact ⟨_, _, rfl, .inr (let ⟨o, its, n, h1, h2, _, h3⟩ := hk; ⟨o, its, n, h1, h2, h3⟩), hr⟩
/-! ### the state -/
def isOwn (s : Option Slot) : Prop :=
  match s with
  | some (.ol _) => True
  | some (.od _) => True
  | _ => False
/-- an address that is nobody else's -/
def Own (W : Wd) (Z S : AS) (a : Addr) : Prop := ¬ S a ∧ ¬ Z a ∧ W.P ≠ some a
/-- the pool as it stands -/
def Pool0 (W : Wd) (H : Hp) (p : Addr) : Prop := ∃ (ns : List Int) (i x c z : Int), H p = some (.lst [.ref W.ps, .int i, .int x, .int c, .int z]) ∧ H W.ps = some (.lst (ns.map V.int)) ∧ 0 ≤ i
def PoolOk (W : Wd) (Z S : AS) (H : Hp) : Prop := ∀ p, W.P = some p → ¬ S p ∧ ¬ Z p ∧ S W.ps ∧ Pool0 W H p
structure R (W : Wd) (Z S : AS) (ρ : Wg.Env) (σ : L2.St) (H : Hp) : Prop where
  len : ρ.length = σ.length
  keep : ∀ (i : Nat) (v : V), W.keep i = some v → σ[i]? = some (some v)
  sh : ∀ (i : Nat) (d : D), ρ[i]? = some (.sh d) → ∃ v, σ[i]? = some (some v) ∧ Rep W S H v d
  ol : ∀ (i : Nat) (l : List D), ρ[i]? = some (.ol l) → ∃ a xs, σ[i]? = some (some (.ref a)) ∧ H a = some (.lst xs) ∧ Own W Z S a ∧ Reps W S H xs l
  od : ∀ (i : Nat) (l : List (D × D)), ρ[i]? = some (.od l) → False
  dis : ∀ (i j : Nat) (a : Addr), isOwn ρ[i]? → isOwn ρ[j]? → σ[i]? = some (some (.ref a)) → σ[j]? = some (some (.ref a)) → i = j
  trk : ∀ a, S a ∨ Z a → H a ≠ none
  dz : ∀ a, S a → ¬ Z a
  pool : PoolOk W Z S H
/-- from one state to a later one -/
structure Ext (Z S : AS) (H : Hp) (S' : AS) (H' : Hp) : Prop where
  s : ∀ a, S a → S' a ∧ H' a = H a
  z : ∀ a, Z a → H' a = H a
theorem Ext.refl {Z S : AS} {H : Hp} : Ext Z S H S H := ⟨fun _ h => ⟨h, rfl⟩, fun _ _ => rfl⟩
theorem Ext.trans {Z S S1 S2 : AS} {H H1 H2 : Hp} (a : Ext Z S H S1 H1) (b : Ext Z S1 H1 S2 H2) : Ext Z S H S2 H2 :=
  ⟨fun x h => ⟨(b.s x (a.s x h).1).1, (b.s x (a.s x h).1).2.trans (a.s x h).2⟩, fun x h => (b.z x h).trans (a.z x h)⟩
/-- an address that no name owns -/
def NoOwn (ρ : Wg.Env) (σ : L2.St) (a : Addr) : Prop := ∀ i : Nat, isOwn ρ[i]? → σ[i]? ≠ some (some (.ref a))
/-- a value that an expression hands back -/
def RepS (W : Wd) (Z S : AS) (ρ : Wg.Env) (σ : L2.St) (H : Hp) (v : V) (s : Slot) : Prop :=
  match s with
  | .un => False
  | .sh d => Rep W S H v d
  | .ol l => ∃ a xs, v = .ref a ∧ H a = some (.lst xs) ∧ Own W Z S a ∧ NoOwn ρ σ a ∧ Reps W S H xs l
  | .od _ => False
def RepO (W : Wd) (S : AS) (σ : L2.St) (H : Hp) (v : V) (o : Opd) : Prop :=
  match o with
  | .r i => σ[i]? = some (some v)
  | .v d => Rep W S H v d
end
section
variable {W : Wd} {Z S S' : AS} {ρ ρ' : Wg.Env} {σ : L2.St} {H H' : Hp} {v : V} {p : Addr}
abbrev AS.and (S : AS) (p : Addr) : AS := fun a => S a ∨ a = p
theorem R.own_trk (r : R W Z S ρ σ H) {i : Nat} {a : Addr} (h : isOwn ρ[i]?) (e : σ[i]? = some (some (.ref a))) : H a ≠ none ∧ Own W Z S a := by
  unfold isOwn at h
  split at h
  · rename_i l e1
    obtain ⟨b, xs, h1, h2, h3, _⟩ := r.ol i l e1
    rw [e] at h1; cases h1
    exact ⟨by rw [h2]; simp, h3⟩
  · rename_i l e1
    exact (r.od i l e1).elim
  · exact h.elim
theorem R.noOwn_new (r : R W Z S ρ σ H) (h : H p = none) : NoOwn ρ σ p := fun i hi e => (r.own_trk hi e).1 h
theorem R.own_new (r : R W Z S ρ σ H) (h : H p = none) : Own W Z S p :=
  ⟨fun hs => r.trk p (.inl hs) h, fun hz => r.trk p (.inr hz) h, fun hp => by
    obtain ⟨_, _, _, ns, i, x, c, z, e, _⟩ := r.pool p hp
    rw [h] at e; cases e⟩
/-- the heap changes at an address that nobody knows -/
theorem R.upd (r : R W Z S ρ σ H) (hs : Own W Z S p) (hn : NoOwn ρ σ p) (o : HO) : R W Z S ρ σ (upd H p o) := by
  have ks : ∀ a, S a → S a ∧ (L2.upd H p o) a = H a := fun a h => ⟨h, upd_ne (fun e => hs.1 (e ▸ h))⟩
  refine ⟨r.len, r.keep, fun i d e => ?_, fun i l e => ?_, r.od, r.dis, fun a h => ?_, r.dz, fun q hq => ?_⟩
  · obtain ⟨v, h1, h2⟩ := r.sh i d e
    exact ⟨v, h1, Rep.mono ks _ _ h2⟩
  · obtain ⟨a, xs, h1, h2, h3, h4⟩ := r.ol i l e
    refine ⟨a, xs, h1, ?_, h3, Reps.mono ks _ _ h4⟩
    have ne : a ≠ p := by rintro rfl; exact hn i (by rw [e]; trivial) h1
    rw [upd_ne ne]
    exact h2
  · by_cases e : a = p
    · rw [e, upd_same]; simp
    · rw [upd_ne e]; exact r.trk a h
  · obtain ⟨h1, h2, e2, ns, i, x, c, z, e1, e3, e4⟩ := r.pool q hq
    have n1 : q ≠ p := fun e => hs.2.2 (e ▸ hq)
    exact ⟨h1, h2, e2, ns, i, x, c, z, by rw [upd_ne n1]; exact e1, (ks _ e2).2.trans e3, e4⟩
theorem Ext.upd (hs : Own W Z S p) (o : HO) : Ext Z S H S (upd H p o) :=
  ⟨fun a h => ⟨h, upd_ne (fun e => hs.1 (e ▸ h))⟩, fun a h => upd_ne (fun e => hs.2.1 (e ▸ h))⟩
/-- an address becomes known -/
theorem R.share (r : R W Z S ρ σ H) (hs : Own W Z S p) (hn : NoOwn ρ σ p) (ht : H p ≠ none) : R W Z (AS.and S p) ρ σ H := by
  have ks : ∀ a, S a → AS.and S p a ∧ H a = H a := fun a h => ⟨.inl h, rfl⟩
  refine ⟨r.len, r.keep, fun i d e => ?_, fun i l e => ?_, r.od, r.dis, fun a h => ?_, fun a h => ?_, fun q hq => ?_⟩
  · obtain ⟨v, h1, h2⟩ := r.sh i d e
    exact ⟨v, h1, Rep.mono ks _ _ h2⟩
  · obtain ⟨a, xs, h1, h2, h3, h4⟩ := r.ol i l e
    refine ⟨a, xs, h1, h2, ⟨fun q => ?_, h3.2⟩, Reps.mono ks _ _ h4⟩
    rcases q with q | q
    · exact h3.1 q
    · subst q; exact hn i (by rw [e]; trivial) h1
  · rcases h with (h | h) | h
    · exact r.trk a (.inl h)
    · subst h; exact ht
    · exact r.trk a (.inr h)
  · rcases h with h | h
    · exact r.dz a h
    · subst h; exact hs.2.1
  · obtain ⟨h1, h2, e2, q0⟩ := r.pool q hq
    refine ⟨fun k => ?_, h2, .inl e2, q0⟩
    rcases k with k | k
    · exact h1 k
    · subst k; exact hs.2.2 hq
theorem Ext.share : Ext Z S H (AS.and S p) H := ⟨fun _ h => ⟨.inl h, rfl⟩, fun _ _ => rfl⟩
/-- what an expression hands back may be known to all -/
theorem fin_val {s : Slot} (r : R W Z S ρ σ H) (h : RepS W Z S ρ σ H v s) : ∃ S', Ext Z S H S' H ∧ R W Z S' ρ σ H ∧ Rep W S' H v s.val := by
  cases s with
  | un => exact h.elim
  | sh d => exact ⟨S, .refl, r, h⟩
  | ol l =>
    obtain ⟨a, xs, rfl, h1, h2, h3, h4⟩ := h
    refine ⟨AS.and S a, .share, r.share h2 h3 (by rw [h1]; simp), .lst (.inr rfl) h1 (Reps.mono (fun a h => ⟨.inl h, rfl⟩) _ _ h4)⟩
  | od l => exact h.elim
theorem RepO.ext {o : Opd} (k : Ext Z S H S' H') (h : RepO W S σ H v o) : RepO W S' σ H' v o := by
  cases o with
  | r i => exact h
  | v d => exact Rep.mono k.s _ _ h
/-- an operand's value -/
theorem RepO.get {o : Opd} {K : D → Prop} (r : R W Z S ρ σ H) (h : RepO W S σ H v o) (g : o.get ρ K) : ∃ d, K d ∧ RepT W S H v d := by
  cases o with
  | v d => exact ⟨d, g, Rep.top h⟩
  | r i =>
    have h' : σ[i]? = some (some v) := h
    have g' : (match ρ[i]? with
      | some (.sh d) => K d
      | some (.ol l) => K (.lst l)
      | some (.od l) => K (.dct l)
      | _ => False) := g
    split at g'
    · rename_i d e
      obtain ⟨u, h1, h2⟩ := r.sh i d e
      rw [h'] at h1; cases h1
      exact ⟨d, g', Rep.top h2⟩
    · rename_i l e
      obtain ⟨a, xs, h1, h2, h3, h4⟩ := r.ol i l e
      rw [h'] at h1; cases h1
      exact ⟨.lst l, g', a, xs, rfl, h2, h4⟩
    · rename_i l e
      exact (r.od i l e).elim
    · exact g'.elim
/-- a slot takes a value -/
theorem R.set {s : Slot} {i : Nat} (r : R W Z S ρ σ H) (hk : W.keep i = none) (h : RepS W Z S ρ σ H v s) : R W Z S (ρ.set i s) (σ.set i (some v)) H := by
  have get : ∀ (j : Nat) (t : Slot), (ρ.set i s)[j]? = some t → (j = i ∧ t = s ∧ j < σ.length) ∨ (j ≠ i ∧ ρ[j]? = some t) := fun j t e => by
    rw [List.getElem?_set] at e
    split at e
    · rename_i hij
      split at e
      · rename_i hl
        cases e
        exact .inl ⟨hij.symm, rfl, by rw [← hij, ← r.len]; exact hl⟩
      · cases e
    · rename_i hij
      exact .inr ⟨fun q => hij q.symm, e⟩
  have own : ∀ j : Nat, isOwn (ρ.set i s)[j]? → (j = i ∧ isOwn (some s) ∧ j < σ.length) ∨ (j ≠ i ∧ isOwn ρ[j]?) := fun j e => by
    cases q : (ρ.set i s)[j]? with
    | none => rw [q] at e; exact e.elim
    | some t =>
      rw [q] at e
      rcases get j t q with ⟨a, b, c⟩ | ⟨a, b⟩
      · subst b; exact .inl ⟨a, e, c⟩
      · exact .inr ⟨a, by rw [b]; exact e⟩
  have new : ∀ a, isOwn (some s) → v = .ref a → NoOwn ρ σ a := fun a ho e => by
    cases s with
    | ol l =>
      obtain ⟨b, xs, e1, _, _, h4, _⟩ := h
      rw [e] at e1; cases e1
      exact h4
    | od l => exact h.elim
    | sh d => exact ho.elim
    | un => exact ho.elim
  refine ⟨by rw [List.length_set, List.length_set]; exact r.len, fun j v e => by rw [List.getElem?_set_ne (fun q => by rw [← q, hk] at e; cases e)]; exact r.keep j v e, fun j d e => ?_, fun j l e => ?_, fun j l e => ?_, fun j k a h1 h2 e1 e2 => ?_, r.trk, r.dz, r.pool⟩
  · rcases get j _ e with ⟨rfl, e1, hl⟩ | ⟨ne, e1⟩
    · subst e1
      exact ⟨v, List.getElem?_set_self hl, h⟩
    · obtain ⟨w, h1, h2⟩ := r.sh j d e1
      exact ⟨w, by rw [List.getElem?_set_ne (Ne.symm ne)]; exact h1, h2⟩
  · rcases get j _ e with ⟨rfl, e1, hl⟩ | ⟨ne, e1⟩
    · subst e1
      obtain ⟨a, xs, rfl, q1, q2, _, q4⟩ := h
      exact ⟨a, xs, List.getElem?_set_self hl, q1, q2, q4⟩
    · obtain ⟨a, xs, h1, h2⟩ := r.ol j l e1
      exact ⟨a, xs, by rw [List.getElem?_set_ne (Ne.symm ne)]; exact h1, h2⟩
  · rcases get j _ e with ⟨_, e1, _⟩ | ⟨_, e1⟩
    · subst e1; exact h
    · exact r.od j l e1
  · rcases own j h1 with ⟨rfl, o1, l1⟩ | ⟨n1, o1⟩
    · rcases own k h2 with ⟨rfl, _, _⟩ | ⟨n2, o2⟩
      · rfl
      · rw [List.getElem?_set_self l1] at e1
        rw [List.getElem?_set_ne (Ne.symm n2)] at e2
        cases e1
        exact (new a o1 rfl k o2 e2).elim
    · rw [List.getElem?_set_ne (Ne.symm n1)] at e1
      rcases own k h2 with ⟨rfl, o2, l2⟩ | ⟨n2, o2⟩
      · rw [List.getElem?_set_self l2] at e2
        cases e2
        exact (new a o2 rfl j o1 e1).elim
      · rw [List.getElem?_set_ne (Ne.symm n2)] at e2
        exact r.dis j k a o1 o2 e1 e2
/-- a name's list may be known elsewhere from now on -/
theorem R.freeze {i : Nat} {l : List D} (r : R W Z S ρ σ H) (e : ρ[i]? = some (.ol l)) : ∃ a, σ[i]? = some (some (.ref a)) ∧ Ext Z S H (AS.and S a) H ∧ R W Z (AS.and S a) (ρ.set i (.sh (.lst l))) σ H ∧ Rep W (AS.and S a) H (.ref a) (.lst l) := by
  obtain ⟨a, xs, h1, h2, h3, h4⟩ := r.ol i l e
  have ks : ∀ b, S b → AS.and S a b ∧ H b = H b := fun b h => ⟨.inl h, rfl⟩
  have rep : Rep W (AS.and S a) H (.ref a) (.lst l) := .lst (.inr rfl) h2 (Reps.mono ks _ _ h4)
  have hi : i < ρ.length := (List.getElem?_eq_some_iff.mp e).1
  have own : ∀ j : Nat, isOwn (ρ.set i (Slot.sh (.lst l)))[j]? → j ≠ i ∧ isOwn ρ[j]? := fun j o => by
    by_cases q : j = i
    · subst q
      rw [List.getElem?_set_self hi] at o
      exact o.elim
    · rw [List.getElem?_set_ne (Ne.symm q)] at o
      exact ⟨q, o⟩
  have nown : ∀ j, j ≠ i → isOwn ρ[j]? → σ[j]? ≠ some (some (.ref a)) := fun j q o z => q (r.dis j i a o (by rw [e]; trivial) z h1)
  refine ⟨a, h1, .share, ⟨by rw [List.length_set]; exact r.len, r.keep, fun j d q => ?_, fun j m q => ?_, fun j m q => ?_, fun j k b o1 o2 e1 e2 => r.dis j k b (own j o1).2 (own k o2).2 e1 e2, fun b h => ?_, fun b h => ?_, fun p hp => ?_⟩, rep⟩
  · by_cases c : j = i
    · subst c
      rw [List.getElem?_set_self hi] at q
      cases q
      exact ⟨_, h1, rep⟩
    · rw [List.getElem?_set_ne (Ne.symm c)] at q
      obtain ⟨w, g1, g2⟩ := r.sh j d q
      exact ⟨w, g1, Rep.mono ks _ _ g2⟩
  · by_cases c : j = i
    · subst c
      rw [List.getElem?_set_self hi] at q
      cases q
    · rw [List.getElem?_set_ne (Ne.symm c)] at q
      obtain ⟨b, ys, g1, g2, g3, g4⟩ := r.ol j m q
      refine ⟨b, ys, g1, g2, ⟨fun z => ?_, g3.2⟩, Reps.mono ks _ _ g4⟩
      rcases z with z | z
      · exact g3.1 z
      · subst z
        exact nown j c (by rw [q]; trivial) g1
  · by_cases c : j = i
    · subst c
      rw [List.getElem?_set_self hi] at q
      cases q
    · rw [List.getElem?_set_ne (Ne.symm c)] at q
      exact r.od j m q
  · rcases h with (h | h) | h
    · exact r.trk b (.inl h)
    · subst h; rw [h2]; simp
    · exact r.trk b (.inr h)
  · rcases h with h | h
    · exact r.dz b h
    · subst h; exact h3.2.1
  · obtain ⟨g1, g2, g3, g4⟩ := r.pool p hp
    refine ⟨fun z => ?_, g2, .inl g3, g4⟩
    rcases z with z | z
    · exact g1 z
    · subst z; exact h3.2.2 hp
end
end WgS
set_option Elab.async false
set_option linter.all false
set_option maxRecDepth 100000
/-! WgS: the data of Wg as the library's data. -/
namespace WgS
open PySem PySem.Spec PyProof.Rows L2
open Wg (D Slot Opd Ex Exs Tg Tgs It Kvs Sts BOp COp Blt Mth LB)
mutual
def toP : D → PyData
  | .non => .none
  | .bl b => .bool b
  | .int i => .int i
  | .str s => .str ⟨s.toArray⟩
  | .tup l => .tuple (toPs l)
  | .lst l => .list (toPs l)
  | .dct _ => .dict []
  | .fn _ _ => .dict []
  | .pool => .dict []
  | .scr _ _ => .dict []
def toPs : List D → List PyData
  | [] => []
  | x :: xs => toP x :: toPs xs
end
theorem toPs_map : ∀ l : List D, toPs l = l.map toP
  | [] => by rw [toPs]; rfl
  | x :: xs => by rw [toPs, toPs_map xs]; rfl
theorem str_beq (a b : List Nat) : ((⟨a.toArray⟩ : Str) == ⟨b.toArray⟩) = (a == b) := by
  rw [Bool.eq_iff_iff]
  simp
mutual
theorem eqv_toP : ∀ a b : D, PyData.eqv (toP a) (toP b) = D.eqv a b
  | .non, b => by cases b <;> simp [toP, PyData.eqv, D.eqv]
  | .bl _, b => by cases b <;> simp [toP, PyData.eqv, D.eqv]
  | .int _, b => by cases b <;> simp [toP, PyData.eqv, D.eqv]
  | .str s, b => by
    cases b with
    | str z => simp only [toP, PyData.eqv, D.eqv]; exact str_beq s z
    | _ => simp [toP, PyData.eqv, D.eqv]
  | .tup l, b => by
    cases b with
    | tup m => simp only [toP, PyData.eqv, D.eqv]; exact eqv_toPs l m
    | _ => simp [toP, PyData.eqv, D.eqv]
  | .lst l, b => by
    cases b with
    | lst m => simp only [toP, PyData.eqv, D.eqv]; exact eqv_toPs l m
    | _ => simp [toP, PyData.eqv, D.eqv]
  | .dct _, b => by cases b <;> simp [toP, PyData.eqv, D.eqv]
  | .fn _ _, b => by cases b <;> simp [toP, PyData.eqv, D.eqv]
  | .pool, b => by cases b <;> simp [toP, PyData.eqv, D.eqv]
  | .scr _ _, b => by cases b <;> simp [toP, PyData.eqv, D.eqv]
theorem eqv_toPs : ∀ a b : List D, PyData.eqvAll (toPs a) (toPs b) = D.eqvs a b
  | [], [] => by simp [toPs, PyData.eqvAll, D.eqvs]
  | [], _ :: _ => by simp [toPs, PyData.eqvAll, D.eqvs]
  | _ :: _, [] => by simp [toPs, PyData.eqvAll, D.eqvs]
  | x :: xs, y :: ys => by rw [toPs, toPs, PyData.eqvAll, D.eqvs, eqv_toP x y, eqv_toPs xs ys]
end
mutual
theorem pl_toP : ∀ (n : Nat) (d : D), D.pl n d = true → (toP d).canLay0 = true ∧ (toP d).depth ≤ n
  | n, .non, _ => by simp [toP, PyData.canLay0, PyData.depth]
  | n, .bl _, _ => by simp [toP, PyData.canLay0, PyData.depth]
  | n, .int _, _ => by simp [toP, PyData.canLay0, PyData.depth]
  | n, .str s, h => by
    refine ⟨?_, by simp [toP, PyData.depth]⟩
    have h' : (s.all fun c => decide (c < 1114112)) = true := by simpa [D.pl] using h
    simp only [toP, PyData.canLay0, PyData.strOk]
    simpa using h'
  | 0, .tup l, h => by simp [D.pl] at h
  | n + 1, .tup l, h => by
    have h' : D.pls n l = true := by simpa [D.pl] using h
    obtain ⟨h1, h2⟩ := pls_toP n l h'
    simp only [toP, PyData.canLay0, PyData.depth]
    exact ⟨h1, by omega⟩
  | 0, .lst l, h => by simp [D.pl] at h
  | n + 1, .lst l, h => by
    have h' : D.pls n l = true := by simpa [D.pl] using h
    obtain ⟨h1, h2⟩ := pls_toP n l h'
    simp only [toP, PyData.canLay0, PyData.depth]
    exact ⟨h1, by omega⟩
  | n, .dct _, h => by cases n <;> simp [D.pl] at h
  | n, .fn _ _, h => by cases n <;> simp [D.pl] at h
  | n, .pool, h => by cases n <;> simp [D.pl] at h
  | n, .scr _ _, h => by cases n <;> simp [D.pl] at h
theorem pls_toP : ∀ (n : Nat) (l : List D), D.pls n l = true → PyData.canLayAll0 (toPs l) = true ∧ PyData.depthAll (toPs l) ≤ n
  | n, [], _ => by simp [toPs, PyData.canLayAll0, PyData.depthAll]
  | n, x :: xs, h => by
    have h' : D.pl n x = true ∧ D.pls n xs = true := by simpa [D.pls] using h
    obtain ⟨a1, a2⟩ := pl_toP n x h'.1
    obtain ⟨b1, b2⟩ := pls_toP n xs h'.2
    simp only [toPs, PyData.canLayAll0, PyData.depthAll]
    exact ⟨by rw [a1, b1]; rfl, by omega⟩
end
theorem pl_shaped {d : D} (h : D.pl 9 d = true) : SeqAt.shaped (toP d) = true := by
  obtain ⟨a, b⟩ := pl_toP 9 d h
  unfold SeqAt.shaped
  rw [a, decide_eq_true (by omega : (toP d).depth ≤ 64)]
  rfl
theorem pls_shaped {l : List D} (h : D.pls 9 l = true) : SeqAt.shaped (.list (toPs l)) = true := by
  obtain ⟨a, b⟩ := pls_toP 9 l h
  have e : (PyData.list (toPs l)).depth ≤ 64 := by simp only [PyData.depth]; omega
  have e1 : (PyData.list (toPs l)).canLay0 = true := by simp only [PyData.canLay0]; exact a
  unfold SeqAt.shaped
  rw [e1, decide_eq_true e]
  rfl
mutual
theorem alike_toP : ∀ a b : D, D.alike a b = true → PySem.W.alike (toP a) (toP b) = true
  | .non, b, h => by cases b <;> simp_all [toP, PySem.W.alike, D.alike]
  | .bl _, b, h => by cases b <;> simp_all [toP, PySem.W.alike, D.alike]
  | .int _, b, h => by cases b <;> simp_all [toP, PySem.W.alike, D.alike]
  | .str s, b, h => by cases b <;> simp_all [toP, PySem.W.alike, D.alike]
  | .tup l, b, h => by
    cases b with
    | tup m => simp only [toP, PySem.W.alike, D.alike] at h ⊢; exact alikes_toP l m h
    | _ => simp [D.alike] at h
  | .lst l, b, h => by
    cases b with
    | lst m => simp only [toP, PySem.W.alike, D.alike] at h ⊢; exact alikes_toP l m h
    | _ => simp [D.alike] at h
  | .dct _, b, h => by cases b <;> simp [D.alike] at h
  | .fn _ _, b, h => by cases b <;> simp [D.alike] at h
  | .pool, b, h => by cases b <;> simp [D.alike] at h
  | .scr _ _, b, h => by cases b <;> simp [D.alike] at h
theorem alikes_toP : ∀ a b : List D, D.alikes a b = true → PySem.W.alikeAll (toPs a) (toPs b) = true
  | [], b, _ => by rw [toPs]; cases (toPs b) <;> simp [PySem.W.alikeAll]
  | x :: xs, [], _ => by simp [toPs, PySem.W.alikeAll]
  | x :: xs, y :: ys, h => by
    have h' : D.alike x y = true ∧ D.alikes xs ys = true := by simpa [D.alikes] using h
    simp only [toPs, PySem.W.alikeAll, Bool.and_eq_true]
    exact ⟨alike_toP x y h'.1, alikes_toP xs ys h'.2⟩
end
mutual
theorem alike_comm : ∀ a b : D, D.alike a b = D.alike b a
  | .non, b => by cases b <;> simp [D.alike]
  | .bl _, b => by cases b <;> simp [D.alike]
  | .int _, b => by cases b <;> simp [D.alike]
  | .str _, b => by cases b <;> simp [D.alike]
  | .tup l, b => by
    cases b with
    | tup m => simp only [D.alike]; exact alikes_comm l m
    | _ => simp [D.alike]
  | .lst l, b => by
    cases b with
    | lst m => simp only [D.alike]; exact alikes_comm l m
    | _ => simp [D.alike]
  | .dct _, b => by cases b <;> simp [D.alike]
  | .fn _ _, b => by cases b <;> simp [D.alike]
  | .pool, b => by cases b <;> simp [D.alike]
  | .scr _ _, b => by cases b <;> simp [D.alike]
theorem alikes_comm : ∀ a b : List D, D.alikes a b = D.alikes b a
  | [], [] => rfl
  | [], _ :: _ => by simp [D.alikes]
  | _ :: _, [] => by simp [D.alikes]
  | x :: xs, y :: ys => by rw [D.alikes, D.alikes, alike_comm x y, alikes_comm xs ys]
end
theorem ltNs_lt : ∀ a b : List Nat, Wg.ltNs a b = decide (a < b)
  | [], [] => by simp [Wg.ltNs]
  | [], _ :: _ => by simp [Wg.ltNs]
  | _ :: _, [] => by simp [Wg.ltNs]
  | x :: xs, y :: ys => by
    rw [Wg.ltNs, ltNs_lt xs ys]
    by_cases h : x = y
    · subst h
      simp
    · rw [if_neg h]
      simp [List.cons_lt_cons_iff, h]
mutual
theorem lt_toP : ∀ a b : D, D.alike a b = true → PySem.W.dataLt (toP a) (toP b) = D.lt a b
  | .non, b, h => by
    cases b <;> simp [D.alike] at h
    simp only [toP, D.lt]
    exact PySem.W.dataLt_self _
  | .bl x, b, h => by
    cases b with
    | bl y =>
      simp only [toP, D.lt]
      rw [PySem.W.dataLt_bool]
      cases x <;> cases y <;> rfl
    | _ => simp [D.alike] at h
  | .int x, b, h => by
    cases b with
    | int y => simp only [toP, D.lt]; exact PySem.W.dataLt_int x y
    | _ => simp [D.alike] at h
  | .str x, b, h => by
    cases b with
    | str y =>
      simp only [toP, D.lt]
      rw [PySem.W.dataLt_str, ltNs_lt]
    | _ => simp [D.alike] at h
  | .tup l, b, h => by
    cases b with
    | tup m =>
      simp only [toP, D.lt, D.alike] at h ⊢
      rw [PySem.W.dataLt_tuple]
      exact lts_toP l m h
    | _ => simp [D.alike] at h
  | .lst l, b, h => by
    cases b with
    | lst m =>
      simp only [toP, D.lt, D.alike] at h ⊢
      rw [PySem.W.dataLt_list]
      exact lts_toP l m h
    | _ => simp [D.alike] at h
  | .dct _, b, h => by cases b <;> simp [D.alike] at h
  | .fn _ _, b, h => by cases b <;> simp [D.alike] at h
  | .pool, b, h => by cases b <;> simp [D.alike] at h
  | .scr _ _, b, h => by cases b <;> simp [D.alike] at h
theorem lts_toP : ∀ a b : List D, D.alikes a b = true → PyProof.Rows.lexLt PyProof.Rows.itemOrd (PySem.W.keyToksAll (toPs a)) (PySem.W.keyToksAll (toPs b)) = D.lts a b
  | [], [], _ => by rw [D.lts]; exact PyProof.Rows.lex_irrefl _
  | [], y :: ys, _ => by
    rw [D.lts, toPs, toPs, PySem.W.keyToksAll, PySem.W.toks_all_cons]
    rfl
  | x :: xs, [], _ => by
    rw [D.lts, toPs, toPs, PySem.W.keyToksAll, PySem.W.toks_all_cons]
    rfl
  | x :: xs, y :: ys, h => by
    have h' : D.alike x y = true ∧ D.alikes xs ys = true := by simpa [D.alikes] using h
    rw [toPs, toPs, D.lts]
    cases e : D.eqv x y with
    | true =>
      rw [if_pos rfl, PySem.W.dataLt_all_yes (alike_toP x y h'.1) (by rw [eqv_toP]; exact e)]
      exact lts_toP xs ys h'.2
    | false =>
      rw [if_neg (by simp), PySem.W.dataLt_all_no (alike_toP x y h'.1) (by rw [eqv_toP]; exact e)]
      exact lt_toP x y h'.1
end
theorem nn_toP {d : D} (h : D.eqv d .non = false) : toP d ≠ .none := by
  intro e
  have q := eqv_toP d .non
  rw [e] at q
  rw [h] at q
  simp [toP, PyData.eqv] at q
section
variable {W : Wd} {S : AS} {H : Hp}
mutual
theorem Rep.dp : ∀ (n : Nat) (d : D) (v : V), Rep W S H v d → D.pl n d = true → Dp W.K H v (toP d)
  | _, .non, _, h, _ => by cases h; rw [toP]; exact .non
  | _, .bl _, _, h, _ => by cases h; rw [toP]; exact .bl _
  | _, .int _, _, h, _ => by cases h; rw [toP]; exact .int _
  | _, .str _, _, h, _ => by cases h; rw [toP]; exact .str _
  | 0, .tup l, _, _, p => by simp [D.pl] at p
  | n + 1, .tup l, _, h, p => by
    obtain ⟨a, xs, rfl, h1, h2⟩ := Rep.tupv h
    rw [toP]
    exact .tup h1 (Reps.dp n l xs h2 (by simpa [D.pl] using p))
  | 0, .lst l, _, _, p => by simp [D.pl] at p
  | n + 1, .lst l, _, h, p => by
    cases h with
    | lst hs ha hr =>
      rw [toP]
      exact .lst (SqL.of ha) (Reps.dp n l _ hr (by simpa [D.pl] using p))
  | n, .dct _, _, h, _ => by cases h
  | n, .fn _ _, _, _, p => by cases n <;> simp [D.pl] at p
  | n, .pool, _, _, p => by cases n <;> simp [D.pl] at p
  | n, .scr _ _, _, _, p => by cases n <;> simp [D.pl] at p
theorem Reps.dp : ∀ (n : Nat) (l : List D) (vs : List V), Reps W S H vs l → D.pls n l = true → DpAll W.K H vs (toPs l)
  | _, [], _, h, _ => by cases h; rw [toPs]; exact .nil
  | n, x :: xs, _, h, p => by
    have p' : D.pl n x = true ∧ D.pls n xs = true := by simpa [D.pls] using p
    cases h with
    | cons h1 h2 => rw [toPs]; exact .cons (Rep.dp n x _ h1 p'.1) (Reps.dp n xs _ h2 p'.2)
end
theorem RepT.dp {n : Nat} {d : D} {v : V} (h : RepT W S H v d) (p : D.pl n d = true) : Dp W.K H v (toP d) := by
  cases d with
  | lst l =>
    obtain ⟨a, xs, rfl, h1, h2⟩ := h
    cases n with
    | zero => simp [D.pl] at p
    | succ n => rw [toP]; exact .lst (SqL.of h1) (Reps.dp n l xs h2 (by simpa [D.pl] using p))
  | _ => exact Rep.dp n _ v h p
end
end WgS
set_option Elab.async false
set_option linter.all false
set_option maxRecDepth 100000
/-! WgS: tuple * int, whatever the int. -/
namespace WgS
open PySem PySem.Spec PyProof.Rows L2
theorem tuple_mul_same (l : Addr) (items : Array Value) (n : Nat) (dd : Option Addr) (sl : Array (Option Value)) (x : Int) (u : Tok) (c0 : (decide (x < -(2 ^ 63)) || decide (x ≥ 2 ^ 63)) = false) (c1 : (items.isEmpty || x == 1) = true) :
    Meets (Builtin.«tuple.__mul__» ⟨[.ref l, .int x u], []⟩) (fun _ R s => s.heap.get? l = some { cls := .type "tuple", dict := dd, data := .seq items n, slots := sl } ∧ R (.ok (.ret (Value.ref l))) s) :=
  .of_wp fun prog w A R s h => by
    obtain ⟨hp, g, d, tk, os⟩ := s
    obtain ⟨hl, h⟩ := h
    have f1 := AutoSeq1.idx_int
    wp_walk using wpAny_loadPart' hl
    repeat (first
      | (refine wpAny_ite_false (decide_eq_false (by rw [c0]; exact Bool.false_ne_true)) ?_; wp_walk using wpAny_loadPart' hl)
      | (refine wpAny_ite_true (decide_eq_true (by rw [c1])) ?_; wp_walk using wpAny_loadPart' hl))
    exact ⟨_, rfl, h⟩
theorem tuple_mul_none (l : Addr) (items : Array Value) (n : Nat) (dd : Option Addr) (sl : Array (Option Value)) (x : Int) (u : Tok) (c0 : (decide (x < -(2 ^ 63)) || decide (x ≥ 2 ^ 63)) = false) (c1 : (items.isEmpty || x == 1) = false) (c2 : (decide (x ≤ 0) || items.isEmpty) = true) :
    Meets (Builtin.«tuple.__mul__» ⟨[.ref l, .int x u], []⟩) (fun _ R s => s.heap.get? l = some { cls := .type "tuple", dict := dd, data := .seq items n, slots := sl } ∧
      R (.ok (.ret (Value.ref s.heap.objs.size))) { s with heap := s.heap.push { cls := Value.type "tuple", data := Data.seq #[] }, toks := s.toks }) :=
  .of_wp fun prog w A R s h => by
    obtain ⟨hp, g, d, tk, os⟩ := s
    obtain ⟨hl, h⟩ := h
    have f1 := AutoSeq1.idx_int
    wp_walk using wpAny_loadPart' hl
    repeat (first
      | (refine wpAny_ite_false (decide_eq_false (by rw [c0]; exact Bool.false_ne_true)) ?_; wp_walk using wpAny_loadPart' hl)
      | (refine wpAny_ite_false (decide_eq_false (by rw [c1]; exact Bool.false_ne_true)) ?_; wp_walk using wpAny_loadPart' hl)
      | (refine wpAny_ite_true (decide_eq_true (by rw [c2])) ?_; wp_walk using wpAny_loadPart' hl))
    exact ⟨_, rfl, h⟩
def rRepTA (K : PySem.W.Frag) : R2 := fun x y H Q => ∃ l k xs, x = .ref l ∧ y = .int k ∧ SqT K H l xs ∧ -1000 ≤ k ∧ k ≤ 1000 ∧ xs.length ≤ 1000 ∧
  ((List.replicate k.toNat xs).flatten = xs → Q (.ref l) H) ∧ ∀ p ob, ob.dict = none → H p = none → Q (.ref p) (upd H p (.frz ob (.tup (List.replicate k.toNat xs).flatten)))
/-- a tuple just made, tracked with its own object -/
theorem laidT {X : Cx} {pins : List (Addr × Obj)} {σ : L2.St} {H : Hp} {s : Shared} {xs : List V} {its : List Value} {t' : Nat} (I : Inv X pins σ H s) (r : Vals xs its) (hz : xs.length ≤ sizeLine) :
    Inv X pins σ (upd H s.heap.objs.size (.frz { cls := .type "tuple", data := .seq its.toArray } (.tup xs))) { s with heap := s.heap.push { cls := .type "tuple", data := .seq its.toArray }, toks := t' } :=
  I.laid (fun b ob q => Heap.get?_push_of_some _ q) (Nat.le_refl _) ⟨Heap.get?_push_size _ rfl, hz, its, r, IsTup.new _ _⟩
section
variable {X : Cx}
theorem op_repTA : OpR X (binaryOp .Mult) (rRepTA X.K) := by
  intro pins s σ H x y v u Q I rx ry h
  obtain ⟨l, k, xs, rfl, rfl, hT, h1, h2, hz, q0, q⟩ := h
  cases rx
  obtain ⟨t, rfl⟩ := ry
  obtain ⟨its, r, ⟨⟨cls, dd, data, sl⟩, ho, hc, n, hd⟩, hs⟩ := I.tuple hT
  simp only at hc hd
  subst hc hd
  have hle : its.length = xs.length := r.length.symm
  have flen : (List.replicate k.toNat its).flatten.length ≤ sizeLine := by
    rw [PyProof.Rows.lm_len_rep_flat, hle, sizeLine_eq]
    have a1 : k.toNat * xs.length ≤ 1000 * 1000 := Nat.mul_le_mul (by omega) hz
    omega
  by_cases hx : xs ≠ [] ∧ 2 ≤ k
  · obtain ⟨hne, h1⟩ := hx
    have hn : its ≠ [] := fun e => hne (by
      rw [e] at hle
      exact List.eq_nil_of_length_eq_zero hle.symm)
    have hi : its.toArray.isEmpty = false := by
      cases its with
      | nil => exact absurd rfl hn
      | cons a b => rfl
    have hsz0 : its.toArray.size = xs.length := by rw [List.size_toArray, hle]
    have hm : ((its.toArray.size : Nat) : Int) * k ≤ 1000000 := by
      rw [hsz0]
      have a1 : ((xs.length : Nat) : Int) * k ≤ 1000 * k := Int.mul_le_mul_of_nonneg_right (by omega) (by omega)
      omega
    have c0 : (decide (k < -(2 ^ 63)) || decide (k ≥ 2 ^ 63)) = false := by
      rw [decide_eq_false (by omega), decide_eq_false (by omega)] <;> rfl
    have c1 : (its.toArray.isEmpty || k == 1) = false := by
      rw [hi, Bool.false_or]
      exact beq_eq_false_iff_ne.mpr (by omega)
    have c2 : (decide (k ≤ 0) || its.toArray.isEmpty) = false := by
      rw [hi, Bool.or_false]
      exact decide_eq_false (by omega)
    have c4 : Builtin.Tuple.tupleTooMany (((its.toArray.size : Nat) : Int) * k) = false := by
      unfold Builtin.Tuple.tupleTooMany
      rw [sizeLine_eq]
      exact decide_eq_false (by omega)
    refine wpAny_binaryOp_repeat_ref (T := "tuple") (U := "int") (by decide) ⟨_, ho, rfl⟩ (fun s' => typeIs_int s' k t) noFill_tuple_mul F.fills_int_mul F.slot_int_rmul repeat_tuple F.slot_int_index.lookup
      (call_meets F.slot_int_rmul (typeIs_int s k t) F.entry_int_rmul (F.args_int_rmul_2 _ _) (int_rmul_tuple k t l its.toArray n dd sl)
        ⟨ho, rfl, ⟨_, ho, rfl⟩, call_meets F.slot_tuple_mul ⟨_, ho, rfl⟩ F.entry_tuple_mul (F.args_tuple_mul_2 _ _) (tuple_mulW l its.toArray n dd sl k t c0 c1 c2 (by omega) c4 (by rw [size_rep, List.size_toArray]; exact flen)) ⟨ho, ?_⟩⟩)
    rw [size_rep]
    exact ⟨.ref s.heap.objs.size, _, laidT (t' := s.toks) I (r.rep k.toNat) (by rw [(r.rep k.toNat).length]; exact flen), rfl, q _ _ rfl (I.hok.fresh (Nat.le_refl _))⟩
  have c0 : (decide (k < -(2 ^ 63)) || decide (k ≥ 2 ^ 63)) = false := by
    rw [decide_eq_false (by omega), decide_eq_false (by omega)] <;> rfl
  have go : ∀ (P : Result → Shared → Prop) (s' : Shared), Meets (Builtin.«tuple.__mul__» ⟨[.ref l, .int k t], []⟩) (fun _ R s => s.heap.get? l = some { cls := .type "tuple", dict := dd, data := .seq its.toArray n, slots := sl } ∧ P (.ok (.ret (Value.ref l))) s) → True := fun _ _ _ => trivial
  by_cases e1 : its = [] ∨ k = 1
  · have c1 : (its.toArray.isEmpty || k == 1) = true := by
      rcases e1 with e1 | e1
      · subst e1; rfl
      · subst e1; simp
    refine wpAny_binaryOp_repeat_ref (T := "tuple") (U := "int") (by decide) ⟨_, ho, rfl⟩ (fun s' => typeIs_int s' k t) noFill_tuple_mul F.fills_int_mul F.slot_int_rmul repeat_tuple F.slot_int_index.lookup
      (call_meets F.slot_int_rmul (typeIs_int s k t) F.entry_int_rmul (F.args_int_rmul_2 _ _) (int_rmul_tuple k t l its.toArray n dd sl)
        ⟨ho, rfl, ⟨_, ho, rfl⟩, call_meets F.slot_tuple_mul ⟨_, ho, rfl⟩ F.entry_tuple_mul (F.args_tuple_mul_2 _ _) (tuple_mul_same l its.toArray n dd sl k t c0 c1) ⟨ho, ?_⟩⟩)
    refine ⟨.ref l, H, I, rfl, q0 ?_⟩
    rcases e1 with e1 | e1
    · subst e1
      have : xs = [] := List.eq_nil_of_length_eq_zero hle.symm
      subst this
      simp
    · subst e1; simp
  · have hne : its ≠ [] := fun e => e1 (.inl e)
    have hx0 : xs ≠ [] := fun e => hne (by subst e; exact List.eq_nil_of_length_eq_zero hle)
    have k0 : k ≤ 0 := by
      have : ¬ 2 ≤ k := fun z => hx ⟨hx0, z⟩
      have : k ≠ 1 := fun e => e1 (.inr e)
      omega
    have hi : its.toArray.isEmpty = false := by
      cases its with
      | nil => exact absurd rfl hne
      | cons a b => rfl
    have c1 : (its.toArray.isEmpty || k == 1) = false := by
      rw [hi, Bool.false_or]
      exact beq_eq_false_iff_ne.mpr (by omega)
    have c2 : (decide (k ≤ 0) || its.toArray.isEmpty) = true := by rw [decide_eq_true k0]; rfl
    refine wpAny_binaryOp_repeat_ref (T := "tuple") (U := "int") (by decide) ⟨_, ho, rfl⟩ (fun s' => typeIs_int s' k t) noFill_tuple_mul F.fills_int_mul F.slot_int_rmul repeat_tuple F.slot_int_index.lookup
      (call_meets F.slot_int_rmul (typeIs_int s k t) F.entry_int_rmul (F.args_int_rmul_2 _ _) (int_rmul_tuple k t l its.toArray n dd sl)
        ⟨ho, rfl, ⟨_, ho, rfl⟩, call_meets F.slot_tuple_mul ⟨_, ho, rfl⟩ F.entry_tuple_mul (F.args_tuple_mul_2 _ _) (tuple_mul_none l its.toArray n dd sl k t c0 c1 c2) ⟨ho, ?_⟩⟩)
    have e0 : (List.replicate k.toNat xs).flatten = [] := by
      have : k.toNat = 0 := by omega
      rw [this]; rfl
    rw [e0] at q
    exact ⟨.ref s.heap.objs.size, _, laidT (its := []) (t' := s.toks) I .nil (by rw [sizeLine_eq]; exact Nat.zero_le _), rfl, q _ _ rfl (I.hok.fresh (Nat.le_refl _))⟩
end
end WgS
set_option Elab.async false
set_option linter.all false
set_option maxRecDepth 100000
/-! WgS: is a text of the program the text of Wg? -/
namespace WgS
open PySem PySem.Spec PyProof.Rows L2
open Wg (D Slot Opd Ex Exs Tg Tgs It Kvs Sts BOp COp Blt Mth LB)
/-- names: of the defs, of the constants -/
structure Tab where
  fn : Nat → Option Str
  con : Nat → Option Str
  /-- slots that are never stored -/
  keep : Nat → Bool := fun _ => false
def opOf : BOp → Operator
  | .add => .Add
  | .sub => .Sub
  | .mul => .Mult
  | .fdiv => .FloorDiv
  | .mod => .Mod
def copOf : COp → CmpOp
  | .eq => .Eq
  | .ne => .NotEq
  | .lt => .Lt
  | .le => .LtE
  | .gt => .Gt
  | .ge => .GtE
  | .isN => .Is
  | .notN => .IsNot
  | .inn => .In
  | .nin => .NotIn
def visB (sc : Scope) (x : Str) : Bool := (match sc.names.lookup x with | some .local => true | some .cell => true | some .free => true | _ => false) && !(x == ("__debug__" : Str)) && !(x == ("__classdict__" : Str))
def glB (sc : Scope) (x : Str) : Bool := (match sc.names.lookup x with | some .globalImplicit => true | _ => false) && !(x == ("__debug__" : Str)) && !(x == ("__name__" : Str))
def chkLit : D → Expr → Bool
  | .non, .Constant .none _ _ => true
  | .bl b, .Constant (.bool c) _ _ => b == c
  | .int i, .Constant (.int j) _ _ => i == j
  | .str s, .Constant (.str z) _ _ => decide (z = ⟨s.toArray⟩)
  | _, _ => false
/-- a built-in's name in the text -/
def bltName : Blt → Option Str
  | .len => some "len"
  | .tuple => some "tuple"
  | .list => some "list"
  | .sorted => some "sorted"
  | .min => some "min"
  | .max => some "max"
  | .sum => some "sum"
  | .abs => some "abs"
  | .int => some "int"
  | .all => some "all"
  | .any => some "any"
  | _ => none
def mthName : Mth → Option Str
  | .append => some "append"
  | .extend => some "extend"
  | .pop => some "pop"
  | .index => some "index"
  | .count => some "count"
  | _ => none
def nameB (N : List Str) (sc : Scope) (i : Nat) (x : Str) : Bool := decide (N[i]? = some x) && visB sc x
def gnB (sc : Scope) (o : Option Str) (x : Str) : Bool := decide (o = some x) && glB sc x
def ownP (N : List Str) (own : List Nat) : List (Str × Nat) := own.map fun i => (N.getD i Str.empty, i)
/-- targets that are names of the block -/
def plB : Expr → Bool
  | .Slice .. => false
  | .Starred .. => false
  | .Set .. => false
  | _ => true
def notCall : Expr → Bool
  | .Call .. => false
  | _ => true
mutual
def tgIn (own : List Nat) : Tg → Bool
  | .nm i => own.contains i
  | .tp ts => tgsIn own ts
  | .sb _ _ => false
def tgsIn (own : List Nat) : Tgs → Bool
  | .n => true
  | .c t ts => tgIn own t && tgsIn own ts
end
/-- zip's pairs are taken apart at once -/
def zipB : Wg.It → Tg → Bool
  | .zip _, .tp _ => true
  | .zip _, _ => false
  | _, _ => true
/-- where a name may be stored -/
def locB (sc : Scope) (fnb : Str → Bool) (x : Str) : Bool := (match sc.names.lookup x with | some .local => true | some .cell => fnb x | _ => false)
def lineB (a c : Pos) : Bool := a.endLine == c.line
mutual
def chkX (T : Tab) (N : List Str) : Ex → Scope → Expr → Bool
  | .lit d, _, e => chkLit d e
  | .var i, sc, e => match e with | .Name x _ => nameB N sc i x | _ => false
  | .glb g, sc, e => match e with | .Name x _ => gnB sc (T.con g) x | _ => false
  | .bin o a b, sc, e => match e with | .BinOp l op r _ => decide (op = opOf o) && chkX T N a sc l && chkX T N b sc r | _ => false
  | .neg a, sc, e => match e with | .UnaryOp .USub x _ => chkX T N a sc x | _ => false
  | .not a, sc, e => match e with | .UnaryOp .Not x _ => chkX T N a sc x | _ => false
  | .cmp o a b, sc, e => match e with | .Compare l [op] [r] _ => decide (op = copOf o) && chkX T N a sc l && chkX T N b sc r | _ => false
  | .chn o1 o2 a b c, sc, e => match e with | .Compare l [p1, p2] [m, r] _ => decide (p1 = copOf o1) && decide (p2 = copOf o2) && chkX T N a sc l && chkX T N b sc m && chkX T N c sc r | _ => false
  | .and a b, sc, e => match e with
    | .BoolOp .And [x, y] _ => chkX T N a sc x && chkX T N b sc y
    | .BoolOp .And (x :: y :: z :: r) p => chkX T N a sc x && chkX T N b sc (.BoolOp .And (y :: z :: r) p)
    | _ => false
  | .or a b, sc, e => match e with
    | .BoolOp .Or [x, y] _ => chkX T N a sc x && chkX T N b sc y
    | .BoolOp .Or (x :: y :: z :: r) p => chkX T N a sc x && chkX T N b sc (.BoolOp .Or (y :: z :: r) p)
    | _ => false
  | .ife c a b, sc, e => match e with | .IfExp t x y _ => chkX T N c sc t && chkX T N a sc x && chkX T N b sc y | _ => false
  | .tup es, sc, e => match e with | .Tuple xs _ _ => decide (es.len ≤ 1000) && chkXs T N es sc xs | _ => false
  | .lst es, sc, e => match e with | .List xs _ => decide (es.len ≤ 1000) && chkXs T N es sc xs | _ => false
  | .dct _, _, _ => false
  | .idx a i, sc, e => match e with | .Subscript x y _ => chkX T N a sc x && chkX T N i sc y | _ => false
  | .slc a lo hi, sc, e => match e with
    | .Subscript x (.Slice l h none _) _ => chkX T N a sc x && (match l with | none => (match lo with | .noPart => true | _ => false) | some l' => chkX T N lo sc l') && (match h with | none => (match hi with | .noPart => true | _ => false) | some h' => chkX T N hi sc h')
    | _ => false
  | .rev _, _, _ => false
  | .noPart, _, _ => false
  | .call f es, sc, e => match e with | .Call (.Name x _) xs [] _ => gnB sc (T.fn f) x && chkXs T N es sc xs | _ => false
  | .callv _ _, _, _ => false
  | .blt b es, sc, e => match b, es with
    | .sortedSet, .c a .n => (match e with
      | .Call (.Name x _) [.Call (.Name y _) [z] [] _] [] _ => gnB sc (some ("sorted" : Str)) x && gnB sc (some ("set" : Str)) y && chkX T N a sc z
      | _ => false)
    | b, es => (match e with
      | .Call (.Name x _) xs [] _ => gnB sc (bltName b) x && (match xs with | [] => false | _ => true) && chkXs T N es sc xs
      | _ => false)
  | .rng t es, sc, e => match e with
    | .Call (.Name x _) [.Call (.Name y _) ys [] _] [] _ => gnB sc (some (if t then ("tuple" : Str) else ("list" : Str))) x && gnB sc (some ("range" : Str)) y && chkXs T N es sc ys && (es.len == 1 || es.len == 2)
    | _ => false
  | .mth m o es, sc, e => match m, o, es with
    | .append, .var k, .c a .n => (match e with
      | .Call (.Attribute (.Name x _) nm ap) [y] [] cp => decide (nm = ("append" : Str)) && lineB ap cp && nameB N sc k x && chkX T N a sc y
      | _ => false)
    | .extend, .var k, .c a .n => (match e with
      | .Call (.Attribute (.Name x _) nm ap) [y] [] cp => decide (nm = ("extend" : Str)) && lineB ap cp && nameB N sc k x && chkX T N a sc y
      | _ => false)
    | .pop, .var k, .n => (match e with
      | .Call (.Attribute (.Name x _) nm ap) [] [] cp => decide (nm = ("pop" : Str)) && lineB ap cp && nameB N sc k x
      | _ => false)
    | .index, o, es => (match e with
      | .Call (.Attribute x nm ap) (y :: ys) [] cp => decide (nm = ("index" : Str)) && lineB ap cp && notCall x && chkX T N o sc x && chkXs T N es sc (y :: ys) && decide (ys.length < 20)
      | _ => false)
    | .count, o, es => (match e with
      | .Call (.Attribute x nm ap) (y :: ys) [] cp => decide (nm = ("count" : Str)) && lineB ap cp && notCall x && chkX T N o sc x && chkXs T N es sc (y :: ys) && decide (ys.length < 20)
      | _ => false)
    | _, _, _ => false
  | .lc own elt t it c, sc, e => match e with
    | .ListComp x [⟨tg, iter, ifs, 0⟩] scope _ => blkC N sc scope (ownP N own) && tgIn own t && zipB it t && own.all (fun i => !T.keep i) && chkI T N it sc iter && chkT T N t (relS scope sc) (fun y => scope.names.lookup y == some .cell) tg && chkCs T N c (relS scope sc) ifs && chkX T N elt (relS scope sc) x
    | _ => false
  | .dc _ _ _ _ _ _, _, _ => false
  | .lam _ _, _, _ => false
  | .minKey _ _ _ _, _, _ => false
def chkXs (T : Tab) (N : List Str) : Exs → Scope → List Expr → Bool
  | .n, _, xs => match xs with | [] => true | _ => false
  | .c e es, sc, xs => match xs with | y :: ys => chkX T N e sc y && chkXs T N es sc ys | _ => false
def chkCs (T : Tab) (N : List Str) : Exs → Scope → List Expr → Bool
  | .n, _, xs => match xs with | [] => true | _ => false
  | .c e .n, sc, xs => match xs with | [y] => chkX T N e sc y | _ => false
  | _, _, _ => false
def chkI (T : Tab) (N : List Str) : Wg.It → Scope → Expr → Bool
  | .e a, sc, e => chkX T N a sc e
  | .range es, sc, e => match e with
    | .Call (.Name x _) [a] [] _ => gnB sc (some ("range" : Str)) x && chkXs T N es sc [a]
    | .Call (.Name x _) [a, b] [] _ => gnB sc (some ("range" : Str)) x && chkXs T N es sc [a, b]
    | _ => false
  | .zip es, sc, e => match e with
    | .Call (.Name x _) [a, b] [] _ => gnB sc (some ("zip" : Str)) x && chkXs T N es sc [a, b]
    | _ => false
def chkT (T : Tab) (N : List Str) : Tg → Scope → (Str → Bool) → Expr → Bool
  | .nm i, sc, fnb, e => match e with | .Name x _ => decide (N[i]? = some x) && locB sc fnb x && !T.keep i | _ => false
  | .tp ts, sc, fnb, e => match e with | .Tuple xs _ _ => chkTs T N ts sc fnb xs | _ => false
  | .sb k i, sc, fnb, e => match e with | .Subscript (.Name x _) y _ => nameB N sc k x && chkX T N i sc y | _ => false
def chkTs (T : Tab) (N : List Str) : Tgs → Scope → (Str → Bool) → List Expr → Bool
  | .n, _, _, xs => match xs with | [] => true | _ => false
  | .c t ts, sc, fnb, xs => match xs with | y :: ys => chkT T N t sc fnb y && chkTs T N ts sc fnb ys | _ => false
end
/-- the stores of a, b = x, y go backwards -/
def swp (sc : Scope) (targets : List Expr) (value : Expr) : Option (Option (List Str)) :=
  match targets, value with
  | [.Tuple ts _ _], .Tuple vs _ _ =>
    if (!(ts.length == 2 || ts.length == 3) || vs.length != ts.length) = true then some none
    else if (vs.any fun | .Starred .. => true | _ => false) = true then some none
    else
      let line := (ts.head?.map (·.pos.line)).getD 0
      let names := ts.filterMap fun
        | .Name id pos => if sc.names.lookup id == some .local && pos.line == line then some id else none
        | _ => none
      if (names.length != ts.length || names.eraseDups.length != names.length) = true then some none
      else if vs.all (foldedForSure 8) = true then some none
      else if vs.all (constantsAlone 8) = true then none
      else some (some names)
  | [.List _ _], .Tuple _ _ _ => none
  | _, _ => some none
mutual
def chkS (T : Tab) (N : List Str) (sc : Scope) : Wg.St → Stmt → Bool
  | .asg t e, s => match s with
    | .Assign [tg] x _ => chkT T N t sc (fun _ => true) tg && chkX T N e sc x && (swp sc [tg] x).isSome && (match x with | .SetComp .. => false | .DictComp .. => false | _ => true)
    | _ => false
  | .aug i o e, s => match s with
    | .AugAssign (.Name x _) op y _ => decide (N[i]? = some x) && !T.keep i && locB sc (fun _ => true) x && decide (op = opOf o) && chkX T N e sc y
    | _ => false
  | .augS k i o e, s => match s with
    | .AugAssign (.Subscript (.Name x _) j _) op y _ => nameB N sc k x && chkX T N i sc j && decide (op = opOf o) && chkX T N e sc y
    | _ => false
  | .exp e, s => match s with | .Expr x _ => (match x with | .ListComp .. => false | .SetComp .. => false | .DictComp .. => false | _ => true) && chkX T N e sc x | _ => false
  | .ret e, s => match s with | .Return (some x) _ => chkX T N e sc x | _ => false
  | .iff c a b, s => match s with | .If t x y _ => chkX T N c sc t && chkSs T N sc a x && chkSs T N sc b y | _ => false
  | .whl c b, s => match s with | .While t x [] _ => chkX T N c sc t && chkSs T N sc b x | _ => false
  | .for t it b, s => match s with | .For tg iter x [] _ => chkT T N t sc (fun _ => true) tg && zipB it t && chkI T N it sc iter && chkSs T N sc b x | _ => false
  | .brk, s => match s with | .Break _ => true | _ => false
  | .cnt, s => match s with | .Continue _ => true | _ => false
  | .rse, _ => true
def chkSs (T : Tab) (N : List Str) (sc : Scope) : Sts → List Stmt → Bool
  | .n, xs => match xs with | [] => true | _ => false
  | .c s ss, xs => match xs with | y :: ys => chkS T N sc s y && chkSs T N sc ss ys | _ => false
end
end WgS
set_option Elab.async false
set_option linter.all false
set_option maxRecDepth 100000
set_option maxHeartbeats 1000000
/-! WgS: operations by values. -/
namespace WgS
open PySem PySem.Spec PyProof.Rows L2
open Wg (D Slot Opd Ex Exs Tg Tgs It Kvs Sts BOp COp Blt Mth LB)
/-- what an operation hands back -/
def Res (W : Wd) (Z S : AS) (ρ : Wg.Env) (σ : L2.St) (H : Hp) (Q : VK) (Qs : Slot → Prop) : Prop :=
  ∀ v H' S' s, Ext Z S H S' H' → R W Z S' ρ σ H' → RepS W Z S' ρ σ H' v s → Qs s → Q v H'
section
variable {W : Wd} {Z S : AS} {ρ : Wg.Env} {σ : L2.St} {H : Hp} {Q : VK} {Qs : Slot → Prop} {p : Addr} {xs : List V} {l : List D}
/-- a value that stands already -/
theorem Res.val {v : V} {d : D} (k : Res W Z S ρ σ H Q Qs) (r : R W Z S ρ σ H) (h : Rep W S H v d) (q : Qs (.sh d)) : Q v H := k v H S (.sh d) .refl r h q
/-- a new tuple -/
theorem Res.tup {ob : Obj} (k : Res W Z S ρ σ H Q Qs) (r : R W Z S ρ σ H) (hd : ob.dict = none) (hp : H p = none) (h : Reps W S H xs l) (q : Qs (.sh (.tup l))) : Q (.ref p) (upd H p (.frz ob (.tup xs))) := by
  have o := r.own_new hp
  have n := r.noOwn_new hp
  have r1 := r.upd o n (.frz ob (.tup xs))
  have e : Ext Z S H (AS.and S p) (upd H p (.frz ob (.tup xs))) := (Ext.upd o _).trans .share
  exact k _ _ _ (.sh (.tup l)) e (r1.share o n (by rw [upd_same]; simp)) (.tup (.inr rfl) upd_same hd (Reps.mono e.s _ _ h)) q
/-- a new list -/
theorem Res.lst (k : Res W Z S ρ σ H Q Qs) (r : R W Z S ρ σ H) (hp : H p = none) (h : Reps W S H xs l) (q : Qs (.ol l)) : Q (.ref p) (upd H p (.lst xs)) := by
  have o := r.own_new hp
  have n := r.noOwn_new hp
  have e : Ext Z S H S (upd H p (.lst xs)) := Ext.upd o _
  exact k _ _ _ (.ol l) e (r.upd o n (.lst xs)) ⟨p, xs, rfl, upd_same, o, n, Reps.mono e.s _ _ h⟩ q
end
section
variable {X : Cx} {W : Wd}
theorem LB_line : LB ≤ sizeLine := by rw [sizeLine_eq]; decide
/-! ### arithmetic -/
def rBin (W : Wd) (o : BOp) : R2 := fun x y H Q => ∃ Z S ρ σ x' y' Qs, R W Z S ρ σ H ∧ RepT W S H x x' ∧ RepT W S H y y' ∧ Wg.binV o x' y' Qs ∧ Res W Z S ρ σ H Q Qs
theorem RepT.int {S : AS} {H : Hp} {x : V} {i : Int} (h : RepT W S H x (.int i)) : x = .int i := by
  have h' : Rep W S H x (.int i) := h
  cases h'; rfl
theorem RepT.str {S : AS} {H : Hp} {x : V} {i : List Nat} (h : RepT W S H x (.str i)) : x = .str ⟨i.toArray⟩ := by
  have h' : Rep W S H x (.str i) := h
  cases h'; rfl
theorem RepT.bl {S : AS} {H : Hp} {x : V} {b : Bool} (h : RepT W S H x (.bl b)) : x = .bl b := by
  have h' : Rep W S H x (.bl b) := h
  cases h'; rfl
theorem log2_lt {x : Int} {a : Nat} (h : x.natAbs < 2 ^ a) (ha : 0 < a) : x.natAbs.log2 < a := PySem.Flt.log2_lt_of ha h
theorem okMul_ok {i j : Int} (h : Wg.okMul i j) : IntMulOk i j := by
  unfold Wg.okMul at h
  rcases h with (h | h) | ⟨h1, h2⟩
  · exact IntMulOk.of_left (intBits_le_64 (by omega) (by omega))
  · exact IntMulOk.of_right (intBits_le_64 (by omega) (by omega))
  · exact CMulW.ok (by
      have a := log2_lt h1 (by decide)
      have b := log2_lt h2 (by decide)
      unfold CMulW
      omega)
theorem okDiv_ok {j : Int} (h : Wg.okDiv j) : j ≠ 0 ∧ j.natAbs.log2 < 9000 := by
  unfold Wg.okDiv at h
  obtain ⟨h0, h | h⟩ := h
  · have a := log2_lt h (by decide)
    exact ⟨h0, by omega⟩
  · have a := log2_lt h (by decide)
    exact ⟨h0, by omega⟩
theorem op_mulI : OpR X (binaryOp .Mult) (rI (fun i j => Wg.okMul i j) fun i j => .int (i * j)) := opI fun _ _ _ _ _ _ _ hc q => mul_int q (okMul_ok hc)
theorem op_fdivI : OpR X (binaryOp .FloorDiv) (rI (fun _ j => Wg.okDiv j) fun i j => .int (i.fdiv j)) := opI fun i j _ _ _ _ _ hc q =>
  floordiv_int (okDiv_ok hc).1 q (.inl (PyProof.noPylong_of_log2 (okDiv_ok hc).2))
theorem ofTA {a b : List Nat} : (⟨a.toArray⟩ : Str) ++ ⟨b.toArray⟩ = ⟨(a ++ b).toArray⟩ := by
  show Str.append _ _ = _
  unfold Str.append
  simp
theorem lenTA {a : List Nat} : (⟨a.toArray⟩ : Str).length = a.length := by
  unfold Str.length
  simp
def rCatF (K : PySem.W.Frag) : R2 := fun x y H Q => ∃ a b xs ys, x = .ref a ∧ y = .ref b ∧ SqT K H a xs ∧ SqT K H b ys ∧ xs.length + ys.length ≤ sizeLine ∧
  (xs = [] → Q (.ref b) H) ∧ (xs ≠ [] → ys = [] → Q (.ref a) H) ∧ (xs ≠ [] → ys ≠ [] → ∀ p ob, ob.dict = none → H p = none → Q (.ref p) (upd H p (.frz ob (.tup (xs ++ ys)))))
theorem op_catF : OpR X (binaryOp .Add) (rCatF X.K) := by
  intro pins s σ H x y v u Q I rx ry h
  obtain ⟨a, b, xs, ys, rfl, rfl, ha, hb, hz, q0, q1, q2⟩ := h
  cases rx
  cases ry
  obtain ⟨its, r1, p1, _⟩ := I.tuple ha
  obtain ⟨its2, r2, p2, _⟩ := I.tuple hb
  by_cases hx : xs = []
  · subst hx
    cases r1
    exact cat_tup0 p1 p2 ⟨.ref b, H, I, rfl, q0 rfl⟩
  · refine HT.cat_tup p1 p2 (fun z => hx (r1.nil_iff.mp z)) (fun z => ⟨.ref a, H, I, rfl, q1 hx (r2.nil_iff.mp z)⟩) (fun z => ?_) (by rw [← r1.length, ← r2.length]; exact hz)
    exact ⟨.ref s.heap.objs.size, _, laidT (t' := s.toks) I (r1.append r2) (by rw [List.length_append]; exact hz), rfl, q2 hx (fun w => z (r2.nil_iff.mpr w)) _ _ rfl (I.hok.fresh (Nat.le_refl _))⟩
theorem op_bin (hK : W.K = X.K) (o : BOp) : OpR X (binaryOp (opOf o)) (rBin W o) := by
  intro pins s σ' H x y v u Q I rx ry h
  obtain ⟨Z, S, ρ, σ, x', y', Qs, r, hx, hy, hb, k⟩ := h
  unfold Wg.binV at hb
  split at hb
  · rename_i i j
    cases hx.int; cases hy.int
    exact op_add pins s σ' H _ _ v u Q I rx ry ⟨i, j, rfl, rfl, k.val r (.int _) hb⟩
  · rename_i a b
    obtain ⟨hz, hb⟩ := hb
    obtain ⟨p, xs, rfl, h1, h2⟩ := Rep.tupv hx
    obtain ⟨q, ys, rfl, h3, h4⟩ := Rep.tupv hy
    have e1 := h2.length
    have e2 := h4.length
    refine op_catF pins s σ' H _ _ v u Q I rx ry ⟨p, q, xs, ys, rfl, rfl, hK ▸ h1, hK ▸ h3, ?_, fun e => ?_, fun _ e => ?_, fun _ _ a ob hd ha => ?_⟩
    · have := LB_line; omega
    · subst e
      have : a = [] := List.eq_nil_of_length_eq_zero e1.symm
      subst this
      exact k.val r hy hb
    · subst e
      have : b = [] := List.eq_nil_of_length_eq_zero e2.symm
      subst this
      rw [List.append_nil] at hb
      exact k.val r hx hb
    · exact k.tup r hd ha (h2.append h4) hb
  · rename_i a b
    obtain ⟨hz, hb⟩ := hb
    obtain ⟨p, xs, rfl, h1, h2⟩ := hx.lst
    obtain ⟨q, ys, rfl, h3, h4⟩ := hy.lst
    have e1 := h2.length
    have e2 := h4.length
    exact op_cat pins s σ' H _ _ v u Q I rx ry ⟨p, q, xs, ys, rfl, rfl, h1, h3, by have := LB_line; omega, fun a ha => k.lst r ha (h2.append h4) hb⟩
  · rename_i a b
    obtain ⟨hz, hb⟩ := hb
    cases hx.str; cases hy.str
    refine op_add_str pins s σ' H _ _ v u Q I rx ry ⟨_, _, rfl, rfl, ?_, ?_⟩
    · rw [lenTA, lenTA]; have := LB_line; omega
    · rw [ofTA]; exact k.val r (.str _) hb
  · rename_i i j
    cases hx.int; cases hy.int
    exact op_sub pins s σ' H _ _ v u Q I rx ry ⟨i, j, rfl, rfl, k.val r (.int _) hb⟩
  · rename_i i j
    cases hx.int; cases hy.int
    exact op_mulI pins s σ' H _ _ v u Q I rx ry ⟨i, j, rfl, rfl, hb.1, k.val r (.int _) hb.2⟩
  · rename_i a j
    obtain ⟨hz, hj1, hj, hb⟩ := hb
    obtain ⟨p, xs, rfl, h1, h2⟩ := Rep.tupv hx
    cases hy.int
    have e1 := h2.length
    refine op_repTA pins s σ' H _ _ v u Q I rx ry ⟨p, j, xs, rfl, rfl, hK ▸ h1, hj1, hj, by omega, fun e => ?_, fun a ob hd ha => k.tup r hd ha (h2.rep _) hb⟩
    have e2 : (List.replicate j.toNat a).flatten = a := by
      by_cases c : j.toNat = 1
      · rw [c]; simp
      · have l1 := congrArg List.length e
        have l2 : j.toNat * xs.length = xs.length := by simpa using l1
        have z : xs.length = 0 := by
          rcases Nat.eq_zero_or_pos xs.length with z | z
          · exact z
          · exfalso
            have : j.toNat * xs.length = 1 * xs.length := by omega
            exact c (Nat.eq_of_mul_eq_mul_right z this)
        have : a = [] := List.eq_nil_of_length_eq_zero (by omega)
        rw [this]; simp
    rw [e2] at hb
    exact k.val r hx hb
  · rename_i a j
    obtain ⟨hz, hj1, hj, hb⟩ := hb
    obtain ⟨p, xs, rfl, h1, h2⟩ := hx.lst
    cases hy.int
    have e1 := h2.length
    refine op_rep pins s σ' H _ _ v u Q I rx ry ⟨p, j, xs, rfl, rfl, h1, ?_, ?_, ?_, fun a ha => k.lst r ha (h2.rep _) hb⟩
    · omega
    · omega
    · rw [sizeLine_eq]
      have a1 : xs.length * j.toNat ≤ 1000 * 1000 := Nat.mul_le_mul (by omega) (by omega)
      omega
  · rename_i i j
    cases hx.int; cases hy.int
    exact op_fdivI pins s σ' H _ _ v u Q I rx ry ⟨i, j, rfl, rfl, hb.1, k.val r (.int _) hb.2⟩
  · rename_i i j
    cases hx.int; cases hy.int
    exact op_modN pins s σ' H _ _ v u Q I rx ry ⟨i, j, rfl, rfl, hb.1, k.val r (.int _) hb.2⟩
  · exact hb.elim
/-! ### comparisons -/
def rCmp (W : Wd) (o : COp) : R2 := fun x y H Q => ∃ S x' y' Qb, RepT W S H x x' ∧ RepT W S H y y' ∧ Wg.cmpV o x' y' Qb ∧ ∀ b, Qb b → Q (.bl b) H
theorem reads_of {pins : List (Addr × Obj)} {σ : L2.St} {H : Hp} {s : Shared} {S : AS} {x : V} {v : Value} {d : D} {n : Nat} (hK : W.K = X.K) (I : Inv X pins σ H s) (h : RepT W S H x d) (p : D.pl n d = true) (r : RelV x v) : ∃ as, Reads s.heap v (toP d) as :=
  Dp.reads I _ _ _ (hK ▸ h.dp p) r
theorem plain_of {n : Nat} {d : D} (p : D.pl n d = true) : (toP d).plain = true := PyData.plain_of_canLay0 _ (pl_toP n d p).1
theorem plains_of {n : Nat} {l : List D} (p : D.pls n l = true) : PyData.plainAll (toPs l) = true := PyData.plainAll_of_canLay0 _ (pls_toP n l p).1
theorem any_toPs (x : D) : ∀ l : List D, ((toPs l).any fun z => PyData.eqv z (toP x)) = l.any fun z => D.eqv z x
  | [] => by rw [toPs]; rfl
  | y :: ys => by rw [toPs, List.any_cons, List.any_cons, any_toPs x ys, eqv_toP]
theorem countP_toPs (x : D) : ∀ l : List D, ((toPs l).countP fun z => PyData.eqv z (toP x)) = l.countP fun z => D.eqv z x
  | [] => by rw [toPs]; rfl
  | y :: ys => by rw [toPs, List.countP_cons, List.countP_cons, countP_toPs x ys, eqv_toP]
theorem scal_non {S : AS} {H : Hp} {x : V} {x' : D} (h : RepT W S H x x') : decide (x = V.non) = Wg.isNon x' := by
  cases x' with
  | non => have h' : Rep W S H x .non := h; cases h'; rfl
  | bl b => cases h.bl; rfl
  | int i => cases h.int; rfl
  | str z => cases h.str; rfl
  | tup l => obtain ⟨a, xs, rfl, _⟩ := Rep.tupv h; rfl
  | lst l => obtain ⟨a, xs, rfl, _⟩ := h.lst; rfl
  | dct l => have h' : Rep W S H x (.dct l) := h; cases h'
  | fn f c => have h' : Rep W S H x (.fn f c) := h; cases h'; rfl
  | pool => have h' : Rep W S H x .pool := h; cases h'; rfl
  | scr k ns => obtain ⟨a, rfl, _⟩ := Rep.scrv h; rfl
theorem op_cmp (hK : W.K = X.K) (hu : X.A.units + 65 < cLine) (o : COp) : OpR X (compareOp (copOf o)) (rCmp W o) := by
  intro pins s σ' H x y v u Q I rx ry h
  obtain ⟨S, x', y', Qb, hx, hy, hb, k⟩ := h
  have fin : ∀ b, Qb b → EP X pins σ' Q (.bool b) s := fun b q => ⟨.bl b, H, I, rfl, k b q⟩
  cases o with
  | eq =>
    obtain ⟨p1, p2, hb⟩ := hb
    exact op_eqD (by omega) pins s σ' H x y v u Q I rx ry ⟨toP x', toP y', hK ▸ hx.dp p1, hK ▸ hy.dp p2, pl_shaped p1, pl_shaped p2, by rw [eqv_toP]; exact k _ hb⟩
  | ne =>
    obtain ⟨p1, p2, hb⟩ := hb
    exact op_neD (by omega) pins s σ' H x y v u Q I rx ry ⟨toP x', toP y', hK ▸ hx.dp p1, hK ▸ hy.dp p2, pl_shaped p1, pl_shaped p2, by rw [eqv_toP]; exact k _ hb⟩
  | lt =>
    obtain ⟨p1, p2, al, nn, hb⟩ := hb
    obtain ⟨as, r1⟩ := reads_of hK I hx p1 rx
    obtain ⟨bs, r2⟩ := reads_of hK I hy p2 ry
    have d1 := (pl_toP 9 x' p1).2
    exact PySem.W.lt_data r1 r2 (alike_toP _ _ al) (nn_toP nn) (by omega) (by rw [lt_toP _ _ al]; exact fin _ hb)
  | gt =>
    obtain ⟨p1, p2, al, nn, hb⟩ := hb
    obtain ⟨as, r1⟩ := reads_of hK I hx p1 rx
    obtain ⟨bs, r2⟩ := reads_of hK I hy p2 ry
    have d1 := (pl_toP 9 x' p1).2
    have al' : PySem.W.alike (toP y') (toP x') = true := by rw [PySem.W.alike_comm]; exact alike_toP _ _ al
    have e : PySem.W.dataLt (toP y') (toP x') = D.lt y' x' := lt_toP _ _ (by rw [alike_comm]; exact al)
    exact PySem.W.gt_data r1 r2 (alike_toP _ _ al) (nn_toP nn) (by omega) (by rw [e]; exact fin _ hb)
  | le =>
    obtain ⟨p1, p2, al, nn, hb⟩ := hb
    obtain ⟨as, r1⟩ := reads_of hK I hx p1 rx
    obtain ⟨bs, r2⟩ := reads_of hK I hy p2 ry
    have d1 := (pl_toP 9 x' p1).2
    have e : PySem.W.dataLt (toP y') (toP x') = D.lt y' x' := lt_toP _ _ (by rw [alike_comm]; exact al)
    exact PySem.W.le_data r1 r2 (alike_toP _ _ al) (nn_toP nn) (by omega) (by rw [e]; exact fin _ hb)
  | ge =>
    obtain ⟨p1, p2, al, nn, hb⟩ := hb
    obtain ⟨as, r1⟩ := reads_of hK I hx p1 rx
    obtain ⟨bs, r2⟩ := reads_of hK I hy p2 ry
    have d1 := (pl_toP 9 x' p1).2
    exact PySem.W.ge_data r1 r2 (alike_toP _ _ al) (nn_toP nn) (by omega) (by rw [lt_toP _ _ al]; exact fin _ hb)
  | isN =>
    cases y' with
    | non =>
      have h' : Rep W S H y .non := hy
      cases h'
      exact op_isN pins s σ' H x _ v u Q I rx ry ⟨rfl, by rw [scal_non hx]; exact k _ hb⟩
    | _ => exact (show False from hb).elim
  | notN =>
    cases y' with
    | non =>
      have h' : Rep W S H y .non := hy
      cases h'
      exact op_notN pins s σ' H x _ v u Q I rx ry ⟨rfl, by rw [scal_non hx]; exact k _ hb⟩
    | _ => exact (show False from hb).elim
  | inn =>
    cases y' with
    | tup l =>
      obtain ⟨p1, p2, hb⟩ := hb
      obtain ⟨as, r1⟩ := reads_of hK I hx p1 rx
      obtain ⟨bs, r2⟩ := reads_of (n := 10) hK I hy (by simpa [D.pl] using p2) ry
      rw [toP] at r2
      have d1 := (pl_toP 9 x' p1).2
      exact PySem.SeqAt.in_tuple_data r2 r1 (plains_of p2) (plain_of p1) (by omega) (by rw [any_toPs]; exact fin _ hb)
    | lst l =>
      obtain ⟨p1, p2, hb⟩ := hb
      obtain ⟨as, r1⟩ := reads_of hK I hx p1 rx
      obtain ⟨bs, r2⟩ := reads_of (n := 10) hK I hy (by simpa [D.pl] using p2) ry
      rw [toP] at r2
      have d1 := (pl_toP 9 x' p1).2
      exact PySem.SeqAt.in_list_data r2 r1 (plains_of p2) (plain_of p1) (by omega) (by rw [any_toPs]; exact fin _ hb)
    | dct kvs => have h' : Rep W S H y (.dct kvs) := hy; cases h'
    | _ => exact (show False from hb).elim
  | nin =>
    cases y' with
    | tup l =>
      obtain ⟨p1, p2, hb⟩ := hb
      obtain ⟨as, r1⟩ := reads_of hK I hx p1 rx
      obtain ⟨bs, r2⟩ := reads_of (n := 10) hK I hy (by simpa [D.pl] using p2) ry
      rw [toP] at r2
      have d1 := (pl_toP 9 x' p1).2
      exact PySem.SeqAt.notIn_tuple_data r2 r1 (plains_of p2) (plain_of p1) (by omega) (by rw [any_toPs]; exact fin _ hb)
    | lst l =>
      obtain ⟨p1, p2, hb⟩ := hb
      obtain ⟨as, r1⟩ := reads_of hK I hx p1 rx
      obtain ⟨bs, r2⟩ := reads_of (n := 10) hK I hy (by simpa [D.pl] using p2) ry
      rw [toP] at r2
      have d1 := (pl_toP 9 x' p1).2
      exact PySem.SeqAt.notIn_list_data r2 r1 (plains_of p2) (plain_of p1) (by omega) (by rw [any_toPs]; exact fin _ hb)
    | dct kvs => have h' : Rep W S H y (.dct kvs) := hy; cases h'
    | _ => exact (show False from hb).elim
end
end WgS
set_option Elab.async false
set_option linter.all false
set_option maxRecDepth 100000
set_option maxHeartbeats 1000000
/-! WgS: built-ins by values. -/
namespace WgS
open PySem PySem.Spec PyProof.Rows L2
open Wg (D Slot Opd Ex Exs Tg Tgs It Kvs Sts BOp COp Blt Mth LB)
inductive RepTs (W : Wd) (S : AS) (H : Hp) : List V → List D → Prop
  | nil : RepTs W S H [] []
  | cons {v : V} {vs : List V} {d : D} {ds : List D} : RepT W S H v d → RepTs W S H vs ds → RepTs W S H (v :: vs) (d :: ds)
section
variable {prog : Program} {w : World} {A : Around} {E : Value → Shared → Prop} {s : Shared}
/-- a list made of a tuple's items -/
theorem collect_tup {l : Addr} {vs : List Value} {Q : List Value → Shared → Prop} (hl : s.heap.IsTuple l vs.toArray)
    (h : Q vs { s with heap := (s.heap.push (seqObj "list" #[] 0)).update s.heap.objs.size (Obj.mapSeq (· ++ vs.toArray)) }) (hsz : vs.length ≤ sizeLine) :
    wpAny (model prog w) A (collect (.ref l)) Q E s := by
  obtain ⟨o, ho, hc, n, hd⟩ := id hl
  unfold collect
  refine wpAny_bind (wpAny_runValue (codeAny_builtin entry_proto_collect' ?_))
  show wpAny _ _ (do again (.builtin "list.__iadd__" ⟨[← newList [], .ref l], []⟩)) _ _ s
  refine wpAny_bind (wpAny_newList (wpAny_pure ⟨Code.quiet_builtin _ (by decide +kernel), codeAny_builtin entry_list_iadd' ?_⟩))
  show wpAny _ _ (Builtin.List.listExtendWith (.ref s.heap.objs.size) (.ref l) (.ref s.heap.objs.size)) _ _ { s with heap := s.heap.push (seqObj "list" #[] 0) }
  unfold Builtin.List.listExtendWith
  have ho' : (s.heap.push (seqObj "list" #[] 0)).get? l = some o := Heap.get?_push_of_some _ ho
  refine wpAny_bind (wpAny_typeOf (T := "tuple") ⟨o, ho', hc⟩ ?_)
  have ht : (Value.type "tuple" == Value.type "tuple") = true := by rfl
  rw [if_pos (by rw [ht]; simp)]
  refine wpAny_bind (listItems_at ho' hd ?_)
  refine wpAny_bind (listItems_at (xs := #[]) (n := 0) (Heap.get?_push_size _ rfl) rfl ?_)
  rw [if_neg (by simp)]
  refine wpAny_bind (listUpdate_at (xs := #[]) (n := 0) (Heap.get?_push_size _ rfl) rfl ?_ (Nat.zero_le _) (by show (#[] ++ vs.toArray).size ≤ sizeLine + 1; simp only [Array.size_append, List.size_toArray, List.length_nil]; omega))
  refine wpAny_pure ?_
  show wpAny (model prog w) A (do
      let o ← load s.heap.objs.size
      match o.data with
      | .seq xs _ => pure xs.toList
      | _ => unsupported "internal:collect") Q E { s with heap := (s.heap.push (seqObj "list" #[] 0)).update s.heap.objs.size (Obj.mapSeq (· ++ vs.toArray)) }
  refine wpAny_bind (wpAny_load (get?_update_seq (Heap.get?_push_size _ rfl) _) ?_)
  show wpAny _ _ (pure ((#[] : Array Value) ++ vs.toArray).toList) Q E _
  rw [show ((#[] : Array Value) ++ vs.toArray).toList = vs by simp]
  exact wpAny_pure h
open PySem.W in
theorem sorted_of_sortT {l : Addr} {vs : List Value} {kw : List (Str × Value)} {Q : Value → Shared → Prop} (hl : s.heap.IsTuple l vs.toArray) (hL : vs.length ≤ sizeLine) (ha1 : argsOk "sorted" ⟨[.ref l], kw⟩) (ha2 : ∀ x, argsOk "list.sort" ⟨[.ref x], kw⟩)
    (body : ∀ E' : Value → Shared → Prop, wpAny (model prog w) A.in1.in1 (Builtin.«list.sort» ⟨[.ref (s.heap.objs.size + 1)], kw⟩) (fun f s' => f = .done (.ret .none) ∧ Q (.ref (s.heap.objs.size + 1)) s') E' { s with heap := copyHeap s.heap vs }) :
    wpAny (model prog w) A (call (.builtin "sorted") [.ref l] kw) Q E s := by
  refine call_function_entry_kw kind_sorted plain_sorted entry_sorted ha1 ?_
  unfold Builtin.«sorted»
  refine wpAny_bind (m := checkCount "sorted" 1 1 _) (wpAny_pure ?_)
  refine wpAny_bind (collect_tup hl ?_ hL)
  refine wpAny_bind (wpAny_newList ?_ hL)
  have hsz : ((s.heap.push (seqObj "list" #[] 0)).update s.heap.objs.size (Obj.mapSeq (· ++ vs.toArray))).objs.size = s.heap.objs.size + 1 := by
    rw [Heap.size_update, size_push']
  show wpAny _ _ _ _ _ { s with heap := copyHeap s.heap vs }
  rw [hsz]
  refine wpAny_bind (wpAny_holding (wpAny_call_entry_kw slot_list_sort ⟨_, copyHeap_at s.heap vs, rfl⟩ entry_list_sort ?body (ha2 _)))
  case body =>
    show wpAny (model prog w) A.in1.in1 (Builtin.«list.sort» ⟨[.ref (s.heap.objs.size + 1)], kw⟩) _ _ _
    refine wpAny_mono (body _) (fun f s' hf => ?_) fun _ _ e => e
    obtain ⟨rfl, hq⟩ := hf
    exact ⟨_, rfl, wpAny_pure ⟨_, rfl, hq⟩⟩
open PySem.W in
theorem sorted_dataT {β : Type} {enc : β → PyData} {R : Value → β → Prop} {bs : List β} {vs : List Value} {l : Addr} {Q : Value → Shared → Prop} (hl : s.heap.IsTuple l vs.toArray) (e : EachIs R vs bs) (er : EachIs (fun v b => ∃ as, Reads s.heap v (enc b) as) vs bs) (hal : AllAlike (bs.map enc)) (hk : Sortable (bs.map enc)) (hL : bs.length ≤ sizeLine)
    (hu : ∀ b, b ∈ bs → A.units + 2 + (enc b).depth < cLine) (h : ∀ out, out.length = bs.length → EachIs R out (bs.mergeSort (dataLe false enc)) → Q (.ref (s.heap.objs.size + 1)) { s with heap := sortedAll s.heap vs (List.toArray out) }) :
    wpAny (model prog w) A (call (.builtin "sorted") [.ref l]) Q E s := by
  have er' : EachIs (fun v b => ∃ as, Reads (sortingHeap (copyHeap s.heap vs) (s.heap.objs.size + 1) vs) v (enc b) as) vs bs := er.mono fun _ _ ⟨as, r⟩ => ⟨as, PyProof.Rows.Reads.keeps (fun _ _ => sorting_copy_old) r⟩
  have S : SortsAt prog w A.in1.in1 { s with heap := sortingHeap (copyHeap s.heap vs) (s.heap.objs.size + 1) vs } _ vs := SortsAt.data (s := { s with heap := sortingHeap (copyHeap s.heap vs) (s.heap.objs.size + 1) vs }) (each_map (R := fun v d => ∃ as, Reads (sortingHeap (copyHeap s.heap vs) (s.heap.objs.size + 1) vs) v d as) enc er') hal hk (bound_map hu)
  have hLv : vs.length ≤ sizeLine := by rw [e.length]; exact hL
  have hq := h _ (by rw [sortVals_length false rfl]; exact e.length) (sortVals_data false e er' hal)
  exact sorted_of_sortT hl hLv (args_sorted1 _) (fun _ => args_list_sort _) fun _ => list_sort_vals (s := { s with heap := copyHeap s.heap vs }) (copyHeap_at s.heap vs) S hLv ⟨rfl, hq⟩
end
def rBlt (W : Wd) (b : Blt) : List V → Hp → VK → Prop := fun vs H Q => ∃ Z S ρ σ ds Qs, R W Z S ρ σ H ∧ RepTs W S H vs ds ∧ Wg.bltV b ds Qs ∧ Res W Z S ρ σ H Q Qs
section
variable {X : Cx} {W : Wd} {S : AS} {H : Hp}
/-- a list or a tuple, read -/
theorem RepT.seq {v : V} {l : List D} (h : RepT W S H v (.lst l) ∨ RepT W S H v (.tup l)) : ∃ a xs, v = .ref a ∧ (SqL W.K H a xs ∨ SqT W.K H a xs) ∧ Reps W S H xs l := by
  rcases h with h | h
  · obtain ⟨a, xs, rfl, h1, h2⟩ := h.lst
    exact ⟨a, xs, rfl, .inl (SqL.of h1), h2⟩
  · obtain ⟨a, xs, rfl, h1, h2⟩ := Rep.tupv h
    exact ⟨a, xs, rfl, .inr h1, h2⟩
theorem cr_len (hK : W.K = X.K) : CallR X (.builtin "len") (rBlt W .len) := by
  intro pins s σ' H vs us Q I rv h
  obtain ⟨Z, S, ρ, σ, ds, Qs, r, hd, hb, k⟩ := h
  unfold Wg.bltV at hb
  split at hb <;> try (first | contradiction | exact hb.elim)
  · rename_i l e
    cases hd with
    | cons h1 h2 =>
      cases h2
      obtain ⟨a, xs, rfl, q1, q2⟩ := RepT.seq (.inr h1)
      exact call_len_seq pins s σ' H _ us Q I rv ⟨a, xs, rfl, hK ▸ q1, by rw [q2.length]; exact k.val r (.int _) hb⟩
  · rename_i l e
    cases hd with
    | cons h1 h2 =>
      cases h2
      obtain ⟨a, xs, rfl, q1, q2⟩ := RepT.seq (.inl h1)
      exact call_len_seq pins s σ' H _ us Q I rv ⟨a, xs, rfl, hK ▸ q1, by rw [q2.length]; exact k.val r (.int _) hb⟩
  · rename_i l e
    cases hd with
    | cons h1 h2 =>
      cases h2
      cases h1.str
      exact call_len_str pins s σ' H _ us Q I rv ⟨_, rfl, by rw [lenTA]; have := LB_line; omega, by rw [lenTA]; exact k.val r (.int _) hb.2⟩
  · rename_i k' ns e
    cases hd with
    | cons h1 h2 =>
      cases h2
      obtain ⟨a, rfl, q1⟩ := Rep.scrv h1
      exact call_len_seq pins s σ' H _ us Q I rv ⟨a, _, rfl, .inl (hK ▸ q1), by rw [List.length_map]; exact k.val r (.int _) hb⟩
theorem call_tuple_ofF : CallR X (.type "tuple") (fun xs H Q => ∃ p ys, xs = [.ref p] ∧ ((SqL X.K H p ys ∧ ∀ l ob, ob.dict = none → H l = none → Q (.ref l) (upd H l (.frz ob (.tup ys)))) ∨ (SqT X.K H p ys ∧ Q (.ref p) H))) := by
  intro pins s σ H xs us Q I r h
  obtain ⟨p, ys, rfl, h⟩ := h
  obtain ⟨u, rfl, rx⟩ := vals1 r
  cases rx
  rcases h with ⟨hq, q⟩ | ⟨hq, q⟩
  · obtain ⟨its, r', pl, hz⟩ := I.list hq
    have hlen := r'.length
    refine call_tuple_list pl.isList (fun h' kp => ?_) (by simp only [List.size_toArray] <;> omega)
    have I1 : Inv X pins σ H { s with heap := h' } := I.kept (t' := s.toks) kp
    exact ⟨.ref h'.objs.size, _, laidT (t' := s.toks) I1 r' hz, rfl, q _ _ rfl (I1.hok.fresh (Nat.le_refl _))⟩
  · obtain ⟨its, r', pl, hz⟩ := I.tuple hq
    exact call_tuple_same pl ⟨.ref p, H, I, rfl, q⟩
theorem cr_tuple (hK : W.K = X.K) : CallR X (.type "tuple") (rBlt W .tuple) := by
  intro pins s σ' H vs us Q I rv h
  obtain ⟨Z, S, ρ, σ, ds, Qs, r, hd, hb, k⟩ := h
  unfold Wg.bltV at hb
  split at hb <;> try (first | contradiction | exact hb.elim)
  · rename_i l e
    cases hd with
    | cons h1 h2 =>
      cases h2
      obtain ⟨a, xs, rfl, q1, q2⟩ := Rep.tupv h1
      exact call_tuple_ofF pins s σ' H _ us Q I rv ⟨a, xs, rfl, .inr ⟨hK ▸ q1, k.val r h1 hb⟩⟩
  · rename_i l e
    cases hd with
    | cons h1 h2 =>
      cases h2
      obtain ⟨a, xs, rfl, q1, q2⟩ := h1.lst
      exact call_tuple_ofF pins s σ' H _ us Q I rv ⟨a, xs, rfl, .inl ⟨SqL.of q1, fun p ob hd hp => k.tup r hd hp q2 hb⟩⟩
theorem cr_list (hK : W.K = X.K) : CallR X (.type "list") (rBlt W .list) := by
  intro pins s σ' H vs us Q I rv h
  obtain ⟨Z, S, ρ, σ, ds, Qs, r, hd, hb, k⟩ := h
  unfold Wg.bltV at hb
  split at hb <;> try (first | contradiction | exact hb.elim)
  · rename_i l e
    cases hd with
    | cons h1 h2 =>
      cases h2
      obtain ⟨a, xs, rfl, q1, q2⟩ := RepT.seq (.inr h1)
      exact call_list_of pins s σ' H _ us Q I rv ⟨a, xs, rfl, hK ▸ q1, fun p hp => k.lst r hp q2 hb⟩
  · rename_i l e
    cases hd with
    | cons h1 h2 =>
      cases h2
      obtain ⟨a, xs, rfl, q1, q2⟩ := RepT.seq (.inl h1)
      exact call_list_of pins s σ' H _ us Q I rv ⟨a, xs, rfl, hK ▸ q1, fun p hp => k.lst r hp q2 hb⟩
  · rename_i k' ns e
    cases hd with
    | cons h1 h2 =>
      cases h2
      obtain ⟨a, rfl, q1⟩ := Rep.scrv h1
      exact call_list_of pins s σ' H _ us Q I rv ⟨a, _, rfl, .inl (hK ▸ q1), fun p hp => k.lst r hp (Reps.ints ns) hb⟩
theorem ints_of : ∀ {l : List D} {ns : List Int} {xs : List V}, l.mapM Wg.intOf = some ns → Reps W S H xs l → xs = ns.map V.int
  | [], ns, xs, h, r => by
    simp at h; subst h; cases r; rfl
  | d :: l, ns, xs, h, r => by
    rw [List.mapM_cons] at h
    cases r with
    | cons r1 r2 =>
      cases d with
      | int i =>
        simp only [Wg.intOf, Option.bind_eq_bind, Option.bind_some] at h
        cases e : l.mapM Wg.intOf with
        | none => rw [e] at h; simp at h
        | some ms =>
          rw [e] at h
          simp at h
          subst h
          cases r1
          rw [ints_of e r2]
          rfl
      | _ => simp [Wg.intOf] at h
theorem bls_of : ∀ {l : List D} {ns : List Bool} {xs : List V}, l.mapM Wg.truth = some ns → Reps W S H xs l → xs = ns.map V.bl
  | [], ns, xs, h, r => by
    simp at h; subst h; cases r; rfl
  | d :: l, ns, xs, h, r => by
    rw [List.mapM_cons] at h
    cases r with
    | cons r1 r2 =>
      cases d with
      | bl i =>
        simp only [Wg.truth, Option.bind_eq_bind, Option.bind_some] at h
        cases e : l.mapM Wg.truth with
        | none => rw [e] at h; simp at h
        | some ms =>
          rw [e] at h
          simp at h
          subst h
          cases r1
          rw [bls_of e r2]
          rfl
      | _ => simp [Wg.truth] at h
theorem cr_sumB (hK : W.K = X.K) (hc : X.calm = true) : CallR X (.builtin "sum") (rBlt W .sum) := by
  intro pins s σ' H vs us Q I rv h
  obtain ⟨Z, S, ρ, σ, ds, Qs, r, hd, hb, k⟩ := h
  unfold Wg.bltV at hb
  split at hb <;> try (first | contradiction | exact hb.elim)
  rename_i l e
  cases hd with
  | cons h1 h2 =>
    cases h2
    obtain ⟨a, xs, rfl, q1, q2⟩ := h1.lst
    unfold Wg.sumL at hb
    split at hb
    · rename_i ns e1
      have e2 := ints_of e1 q2
      subst e2
      exact cr_sum hc pins s σ' H _ us Q I rv ⟨a, ns, rfl, SqL.of q1, k.val r (.int _) hb⟩
    · exact hb.elim
theorem cr_allB (hK : W.K = X.K) (hc : X.calm = true) : CallR X (.builtin "all") (rBlt W .all) := by
  intro pins s σ' H vs us Q I rv h
  obtain ⟨Z, S, ρ, σ, ds, Qs, r, hd, hb, k⟩ := h
  unfold Wg.bltV at hb
  split at hb <;> try (first | contradiction | exact hb.elim)
  rename_i l e
  cases hd with
  | cons h1 h2 =>
    cases h2
    obtain ⟨a, xs, rfl, q1, q2⟩ := h1.lst
    unfold Wg.blsL at hb
    split at hb
    · rename_i ns e1
      have e2 := bls_of e1 q2
      subst e2
      exact cr_all hc pins s σ' H _ us Q I rv ⟨a, ns, rfl, SqL.of q1, k.val r (.bl _) hb⟩
    · exact hb.elim
theorem cr_anyB (hK : W.K = X.K) (hc : X.calm = true) : CallR X (.builtin "any") (rBlt W .any) := by
  intro pins s σ' H vs us Q I rv h
  obtain ⟨Z, S, ρ, σ, ds, Qs, r, hd, hb, k⟩ := h
  unfold Wg.bltV at hb
  split at hb <;> try (first | contradiction | exact hb.elim)
  rename_i l e
  cases hd with
  | cons h1 h2 =>
    cases h2
    obtain ⟨a, xs, rfl, q1, q2⟩ := h1.lst
    unfold Wg.blsL at hb
    split at hb
    · rename_i ns e1
      have e2 := bls_of e1 q2
      subst e2
      exact cr_any hc pins s σ' H _ us Q I rv ⟨a, ns, rfl, SqL.of q1, k.val r (.bl _) hb⟩
    · exact hb.elim
theorem cr_abs : CallR X (.builtin "abs") (rBlt W .abs) := by
  intro pins s σ' H vs us Q I rv h
  obtain ⟨Z, S, ρ, σ, ds, Qs, r, hd, hb, k⟩ := h
  unfold Wg.bltV at hb
  split at hb <;> try (first | contradiction | exact hb.elim)
  rename_i i e
  cases hd with
  | cons h1 h2 =>
    cases h2
    cases h1.int
    exact call_abs pins s σ' H _ us Q I rv ⟨i, rfl, k.val r (.int _) hb⟩
theorem cr_int : CallR X (.type "int") (rBlt W .int) := by
  intro pins s σ' H vs us Q I rv h
  obtain ⟨Z, S, ρ, σ, ds, Qs, r, hd, hb, k⟩ := h
  unfold Wg.bltV at hb
  split at hb <;> try (first | contradiction | exact hb.elim)
  · rename_i i e
    cases hd with
    | cons h1 h2 =>
      cases h2
      cases h1.int
      exact call_int1 pins s σ' H _ us Q I rv (.inl ⟨i, rfl, k.val r (.int _) hb⟩)
  · rename_i i e
    cases hd with
    | cons h1 h2 =>
      cases h2
      cases h1.bl
      exact call_int1 pins s σ' H _ us Q I rv (.inr ⟨i, rfl, k.val r (.int _) hb⟩)
/-! ### sorted, min, max -/
theorem mem_toPs {l : List D} {d : PyData} (h : d ∈ toPs l) : ∃ x ∈ l, toP x = d := by
  rw [toPs_map] at h
  exact List.mem_map.mp h
theorem alikeAll_of {l : List D} (h : ∀ x ∈ l, ∀ y ∈ l, D.alike x y = true) : PySem.W.AllAlike (l.map toP) := by
  intro d hd e he
  obtain ⟨x, hx, rfl⟩ := List.mem_map.mp hd
  obtain ⟨y, hy, rfl⟩ := List.mem_map.mp he
  exact alike_toP _ _ (h x hx y hy)
theorem sortable_of {l : List D} (hn : ∀ x ∈ l, D.eqv x .non = false) (h : Wg.sortable l) : PySem.W.Sortable (l.map toP) := by
  rcases h with h | h
  · refine .inl fun d hd => ?_
    obtain ⟨x, hx, rfl⟩ := List.mem_map.mp hd
    obtain ⟨y, r, rfl⟩ := h x hx
    exact ⟨toP y, toPs r, by rw [toP, toPs]⟩
  · refine .inr fun d hd => ?_
    obtain ⟨x, hx, rfl⟩ := List.mem_map.mp hd
    refine ⟨nn_toP (hn x hx), fun xs e => ?_⟩
    have t := h x hx
    cases x <;> simp_all [toP, D.isTup]
open PySem.W (EachIs) in
theorem each_of {H' : Hp} : ∀ {xs : List V} {us : List Value} {l : List D}, Vals xs us → Reps W S H' xs l → EachIs (fun u d => ∃ v, RelV v u ∧ Rep W S H' v d) us l
  | _, _, _, .nil, .nil => .nil
  | _, _, _, .cons r1 r2, .cons h1 h2 => .cons ⟨_, r1, h1⟩ (each_of r2 h2)
open PySem.W (EachIs) in
theorem of_each {H' : Hp} : ∀ {us : List Value} {l : List D}, EachIs (fun u d => ∃ v, RelV v u ∧ Rep W S H' v d) us l → ∃ xs, Vals xs us ∧ Reps W S H' xs l
  | _, _, .nil => ⟨[], .nil, .nil⟩
  | _, _, .cons h1 t => by
    obtain ⟨v, r1, q1⟩ := h1
    obtain ⟨xs, r2, q2⟩ := of_each t
    exact ⟨v :: xs, .cons r1 r2, .cons q1 q2⟩
theorem leD_eq {l : List D} (h : ∀ x ∈ l, ∀ y ∈ l, D.alike x y = true) : ∀ a ∈ l, ∀ b ∈ l, PySem.W.dataLe false toP a b = Wg.leD a b := fun a ha b hb => by
  show (!PySem.W.dataLt (toP b) (toP a)) = _
  rw [lt_toP _ _ (h b hb a ha)]
  rfl
theorem cr_sortedB (hK : W.K = X.K) (hu : X.A.units + 65 < cLine) : CallR X (.builtin "sorted") (rBlt W .sorted) := by
  intro pins s σ' H vs us Q I rv h
  obtain ⟨Z, S, ρ, σ, ds, Qs, r, hd, hb, k⟩ := h
  have go : ∀ (l : List D) (v : V), (RepT W S H v (.lst l) ∨ RepT W S H v (.tup l)) → vs = [v] → Wg.allAlike l → Wg.sortable l → Qs (.ol (Wg.sortD l)) → wpAny (model X.prog X.w) X.A (call (.builtin "sorted") us) (EP X pins σ' Q) X.xe s := by
    intro l v hv e0 ha hs hq
    subst e0
    obtain ⟨u, rfl, ru⟩ := vals1 rv
    have hpl : ∀ x ∈ l, (toP x).depth ≤ 8 := fun x hx => (pl_toP 8 x (ha.2 x hx).1).2
    obtain ⟨a, xs, rfl, q1, q2⟩ := RepT.seq hv
    cases ru
    have hdu : ∀ b, b ∈ l → X.A.units + 2 + (toP b).depth < cLine := fun b hb => by have := hpl b hb; omega
    have fin : ∀ (its : List Value), Vals xs its → xs.length ≤ sizeLine → ∀ out : List Value, out.length = l.length → PySem.W.EachIs (fun u d => ∃ v, RelV v u ∧ Rep W S H v d) out (l.mergeSort (PySem.W.dataLe false toP)) →
        EP X pins σ' Q (.ref (s.heap.objs.size + 1)) { s with heap := sortedAll s.heap its out.toArray } := by
      intro its hits hz out ho hE
      rw [PySem.W.sort_congr (leD_eq ha.1)] at hE
      obtain ⟨ys, v1, v2⟩ := of_each hE
      obtain ⟨ep, he'⟩ := PyProof.Rows.sortedAll_at s.heap its out.toArray
      have hlen : ys.length ≤ sizeLine := by rw [v1.length, ho, ← q2.length]; exact hz
      exact ⟨.ref _, upd H (s.heap.objs.size + 1) (.lst ys), I.laid (t' := s.toks) (fun _ _ => PyProof.Rows.sortedAll_old) (Nat.le_succ _) ⟨hlen, out, ep, v1, he'⟩, rfl, k.lst r (I.hok.fresh (Nat.le_succ _)) v2 hq⟩
    have er : ∀ its : List Value, Vals xs its → PySem.W.EachIs (fun v b => ∃ as, Reads s.heap v (toP b) as) its l := fun its hits => by
      have e1 := each_of hits q2
      refine (PySem.W.each_mem e1).mono fun u d ⟨⟨v, r1, r2⟩, hm⟩ => ?_
      exact Dp.reads I _ _ _ (hK ▸ Rep.dp 8 d v r2 (ha.2 d hm).1) r1
    rcases q1 with q1 | q1
    · obtain ⟨its, rv', hl, hz⟩ := I.list (hK ▸ q1)
      exact PySem.W.sorted_data (enc := toP) (R := fun u d => ∃ v, RelV v u ∧ Rep W S H v d) hl.isList (each_of rv' q2) (er its rv') (alikeAll_of ha.1) (sortable_of (fun x hx => (ha.2 x hx).2) hs) (by rw [← q2.length]; exact hz) hdu (fin its rv' hz)
    · obtain ⟨its, rv', hl, hz⟩ := I.tuple (hK ▸ q1)
      exact sorted_dataT (enc := toP) (R := fun u d => ∃ v, RelV v u ∧ Rep W S H v d) hl (each_of rv' q2) (er its rv') (alikeAll_of ha.1) (sortable_of (fun x hx => (ha.2 x hx).2) hs) (by rw [← q2.length]; exact hz) hdu (fin its rv' hz)
  unfold Wg.bltV at hb
  split at hb <;> try (first | contradiction | exact hb.elim)
  · cases hd with
    | cons h1 h2 => cases h2; exact go _ _ (.inl h1) rfl hb.1 hb.2.1 hb.2.2
  · cases hd with
    | cons h1 h2 => cases h2; exact go _ _ (.inr h1) rfl hb.1 hb.2.1 hb.2.2
mutual
theorem toP_inj : ∀ (n m : Nat) (a b : D), D.pl n a = true → D.pl m b = true → toP a = toP b → a = b
  | n, m, .non, b, _, hb, e => by cases b <;> simp_all [toP, D.pl]
  | n, m, .bl x, b, _, hb, e => by cases b <;> simp_all [toP, D.pl]
  | n, m, .int x, b, _, hb, e => by cases b <;> simp_all [toP, D.pl]
  | n, m, .str x, b, _, hb, e => by cases b <;> simp_all [toP, D.pl]
  | 0, m, .tup l, b, ha, hb, e => by simp [D.pl] at ha
  | n + 1, m, .tup l, b, ha, hb, e => by
    cases b with
    | tup k =>
      cases m with
      | zero => simp [D.pl] at hb
      | succ m =>
        simp only [toP, PyData.tuple.injEq] at e
        rw [toPs_inj n m l k (by simpa [D.pl] using ha) (by simpa [D.pl] using hb) e]
    | _ => simp [toP] at e
  | 0, m, .lst l, b, ha, hb, e => by simp [D.pl] at ha
  | n + 1, m, .lst l, b, ha, hb, e => by
    cases b with
    | lst k =>
      cases m with
      | zero => simp [D.pl] at hb
      | succ m =>
        simp only [toP, PyData.list.injEq] at e
        rw [toPs_inj n m l k (by simpa [D.pl] using ha) (by simpa [D.pl] using hb) e]
    | _ => simp [toP] at e
  | n, m, .dct _, b, ha, _, _ => by cases n <;> simp [D.pl] at ha
  | n, m, .fn _ _, b, ha, _, _ => by cases n <;> simp [D.pl] at ha
  | n, m, .pool, b, ha, _, _ => by cases n <;> simp [D.pl] at ha
theorem toPs_inj : ∀ (n m : Nat) (a b : List D), D.pls n a = true → D.pls m b = true → toPs a = toPs b → a = b
  | n, m, [], b, _, _, e => by cases b <;> simp_all [toPs]
  | n, m, x :: xs, b, ha, hb, e => by
    cases b with
    | nil => simp [toPs] at e
    | cons y ys =>
      have ha' : D.pl n x = true ∧ D.pls n xs = true := by simpa [D.pls] using ha
      have hb' : D.pl m y = true ∧ D.pls m ys = true := by simpa [D.pls] using hb
      simp only [toPs, List.cons.injEq] at e
      rw [toP_inj n m x y ha'.1 hb'.1 e.1, toPs_inj n m xs ys ha'.2 hb'.2 e.2]
end
theorem foldl_mem {α : Type} (f : α → α → α) (hf : ∀ a b, f a b = a ∨ f a b = b) : ∀ (xs : List α) (x : α), xs.foldl f x ∈ x :: xs
  | [], x => by simp
  | y :: ys, x => by
    have h := foldl_mem f hf ys (f x y)
    rw [List.foldl_cons]
    rcases List.mem_cons.mp h with h | h
    · rw [h]
      rcases hf x y with q | q
      · rw [q]; simp
      · rw [q]; simp
    · exact List.mem_cons_of_mem _ (List.mem_cons_of_mem _ h)
theorem minD_mem (x : D) (xs : List D) : Wg.minD x xs ∈ x :: xs := foldl_mem _ (fun a b => by split <;> simp) xs x
theorem maxD_mem (x : D) (xs : List D) : Wg.maxD x xs ∈ x :: xs := foldl_mem _ (fun a b => by split <;> simp) xs x
theorem minD_toP : ∀ (xs : List D) (x : D), (∀ a ∈ x :: xs, ∀ b ∈ x :: xs, D.alike a b = true) → PySem.W.minD (toP x) (toPs xs) = toP (Wg.minD x xs)
  | [], x, _ => by rw [toPs]; rfl
  | y :: ys, x, h => by
    have e : PySem.W.dataLt (toP y) (toP x) = D.lt y x := lt_toP _ _ (h y (by simp) x (by simp))
    rw [toPs]
    show PySem.W.minD (if PySem.W.dataLt (toP y) (toP x) = true then toP y else toP x) (toPs ys) = toP (Wg.minD (if D.lt y x then y else x) ys)
    rw [e]
    split
    · exact minD_toP ys y fun a ha b hb => h a (List.mem_cons_of_mem _ ha) b (List.mem_cons_of_mem _ hb)
    · refine minD_toP ys x fun a ha b hb => h a ?_ b ?_
      · rcases List.mem_cons.mp ha with q | q
        · rw [q]; simp
        · simp [q]
      · rcases List.mem_cons.mp hb with q | q
        · rw [q]; simp
        · simp [q]
theorem maxD_toP : ∀ (xs : List D) (x : D), (∀ a ∈ x :: xs, ∀ b ∈ x :: xs, D.alike a b = true) → PySem.W.maxD (toP x) (toPs xs) = toP (Wg.maxD x xs)
  | [], x, _ => by rw [toPs]; rfl
  | y :: ys, x, h => by
    have e : PySem.W.dataLt (toP x) (toP y) = D.lt x y := lt_toP _ _ (h x (by simp) y (by simp))
    rw [toPs]
    show PySem.W.maxD (if PySem.W.dataLt (toP x) (toP y) = true then toP y else toP x) (toPs ys) = toP (Wg.maxD (if D.lt x y then y else x) ys)
    rw [e]
    split
    · exact maxD_toP ys y fun a ha b hb => h a (List.mem_cons_of_mem _ ha) b (List.mem_cons_of_mem _ hb)
    · refine maxD_toP ys x fun a ha b hb => h a ?_ b ?_
      · rcases List.mem_cons.mp ha with q | q
        · rw [q]; simp
        · simp [q]
      · rcases List.mem_cons.mp hb with q | q
        · rw [q]; simp
        · simp [q]
end
section
variable {prog : Program} {w : World} {A : Around} {E : Value → Shared → Prop} {s : Shared}
theorem args_max3 (a b c : Value) : argsOk "max" ⟨[a, b, c], []⟩ := by unfold argsOk; kernel_rfl
theorem call_max_three {a b c : Value} {Q : Value → Shared → Prop}
    (h : wpAny (model prog w) A.in1 (pyIter (.ref s.heap.objs.size)) (fun it s₂ => ∃ I fp wr n P St bt, it = .ref I ∧ Walks prog w A.in1 I fp wr n P St ∧ St 0 s₂.heap ∧ (∀ b ∈ fp, b < s₂.heap.objs.size) ∧ 0 < n ∧ CmpOf prog w A.in1 .Gt P bt ∧
      ∀ v h' tk, P (argBest bt (n - 1)) v → (∀ b o, b ∉ wr → s₂.heap.get? b = some o → h'.get? b = some o) → Q v { s₂ with heap := h', toks := tk }) E
      { s with heap := s.heap.push { cls := .type "tuple", data := .seq #[a, b, c] } }) :
    wpAny (model prog w) A (call (.builtin "max") [a, b, c]) Q E s := by
  have hname : (toString "max" ++ toString ".loop" : String) = "max.loop" := by decide
  refine call_function_tree F.kind_max F.plain_max F.entry_max (args_max3 _ _ _) ?_
  show wpAny _ A.in1 (Builtin.Builtins.bindParams "max" ["key", "default"] 0 ⟨[], []⟩ >>= _) _ _ s
  refine wpAny_bind (wpAny_of_eq (show Builtin.Builtins.bindParams "max" ["key", "default"] 0 ⟨[], []⟩ = pure [none, none] from rfl) ?_)
  show wpAny _ A.in1 (newTuple [a, b, c] >>= _) _ _ s
  refine wpAny_bind (wpAny_newObj_type ?_)
  refine wpAny_bind (wpAny_mono h (fun it s₂ h₂ => ?_) fun _ _ e => e)
  obtain ⟨I, fp, wr, n, P, St, bt, rfl, W, hst, hfp, hn, hcmp, hQ⟩ := h₂
  refine wpAny_bind (wpAny_newObj_type ?_)
  have hSf : s₂.heap.objs.size ∉ fp := fun hm => Nat.lt_irrefl _ (hfp _ hm)
  rw [hname]
  refine wpAny_pure ⟨plainId_quiet F.plain_max_loop _, codeAny_max_loop_first W bt hcmp s₂.heap.objs.size hSf hn (W.frame _ _ _ hst fun b _ o e => Heap.get?_push_of_some _ e) (Heap.get?_push_size _ rfl) fun v h' tk hP hk => ?_⟩
  exact hQ v h' tk hP fun b o hbw e => hk b o hbw (Nat.ne_of_lt (Heap.lt_size e)) (Heap.get?_push_of_some _ e)
theorem max_three_ints {a b c : Int} {t u x : Tok} {Q : Value → Shared → Prop} (hh : A.handled = none)
    (h : ∀ y h' tk, (∀ c o, s.heap.get? c = some o → h'.get? c = some o) → Q (.int (if (if a < b then b else a) < c then c else (if a < b then b else a)) y) { s with heap := h', toks := tk }) :
    wpAny (model prog w) A (call (.builtin "max") [.int a t, .int b u, .int c x]) Q E s := by
  have hT : (s.heap.push { cls := .type "tuple", data := .seq #[.int a t, .int b u, .int c x] }).IsTuple s.heap.objs.size (intItems #[(a, t), (b, u), (c, x)]) := ⟨_, Heap.get?_push_size _ rfl, rfl, 0, by simp [intItems]⟩
  refine call_max_three (wpAny_pyIter_tuple hT ?_)
  have hsz : (s.heap.push { cls := .type "tuple", data := .seq #[.int a t, .int b u, .int c x] }).objs.size = s.heap.objs.size + 1 := Heap.size_push ..
  refine ⟨_, [_, s.heap.objs.size], [_], _, _, _, _, rfl, Walks.tuple (A := A.in1) hh _ s.heap.objs.size (by rw [hsz]; exact Nat.ne_of_lt (Nat.lt_succ_self _)) (intItems #[(a, t), (b, u), (c, x)]),
    ⟨⟨_, Heap.get?_push_size _ rfl, rfl, rfl⟩, hT.push _⟩, fun c hc => ?_, by simp [intItems], CmpOf.ints_gt (numAt #[(a, t), (b, u), (c, x)]) (fun _ _ => intItems_at), fun v h' tk hP hk => ?_⟩
  · show c < ((s.heap.push _).push _).objs.size
    rw [Heap.size_push, hsz]
    rcases List.mem_cons.mp hc with rfl | hc
    · rw [hsz]; exact Nat.lt_succ_self _
    · rcases List.mem_cons.mp hc with rfl | hc
      · exact Nat.lt_succ_of_lt (Nat.lt_succ_self _)
      · cases hc
  · have hold : ∀ c o, s.heap.get? c = some o → h'.get? c = some o := fun c o e => by
      refine hk c o (fun hm => ?_) (Heap.get?_push_of_some _ (Heap.get?_push_of_some _ e))
      rcases List.mem_cons.mp hm with e1 | hm
      · have := Heap.lt_size e; rw [e1, hsz] at this; exact Nat.lt_irrefl _ (Nat.lt_of_succ_lt this)
      · cases hm
    have hP' : (intItems #[(a, t), (b, u), (c, x)])[argBest (fun i j => decide (numAt #[(a, t), (b, u), (c, x)] i > numAt #[(a, t), (b, u), (c, x)] j)) 2]? = some v := by
      have hsz2 : (intItems #[(a, t), (b, u), (c, x)]).size - 1 = 2 := by simp [intItems]
      rw [← hsz2]; exact hP
    have hv : ∃ y, v = Value.int (if (if a < b then b else a) < c then c else (if a < b then b else a)) y := by
      by_cases h1 : a < b
      · by_cases h2 : b < c
        · have e : argBest (fun i j => decide (numAt #[(a, t), (b, u), (c, x)] i > numAt #[(a, t), (b, u), (c, x)] j)) 2 = 2 := by simp [argBest, numAt, h1, h2]
          rw [e] at hP'
          exact ⟨x, by simpa [intItems, h1, h2] using hP'.symm⟩
        · have e : argBest (fun i j => decide (numAt #[(a, t), (b, u), (c, x)] i > numAt #[(a, t), (b, u), (c, x)] j)) 2 = 1 := by simp [argBest, numAt, h1, h2]
          rw [e] at hP'
          exact ⟨u, by simpa [intItems, h1, h2] using hP'.symm⟩
      · by_cases h2 : a < c
        · have e : argBest (fun i j => decide (numAt #[(a, t), (b, u), (c, x)] i > numAt #[(a, t), (b, u), (c, x)] j)) 2 = 2 := by simp [argBest, numAt, h1, h2]
          rw [e] at hP'
          exact ⟨x, by simpa [intItems, h1, h2] using hP'.symm⟩
        · have e : argBest (fun i j => decide (numAt #[(a, t), (b, u), (c, x)] i > numAt #[(a, t), (b, u), (c, x)] j)) 2 = 0 := by simp [argBest, numAt, h1, h2]
          rw [e] at hP'
          exact ⟨t, by simpa [intItems, h1, h2] using hP'.symm⟩
    obtain ⟨y, hv⟩ := hv
    rw [hv]
    exact h y h' tk hold
end
section
variable {X : Cx} {W : Wd} {S : AS} {H : Hp}
/-- the item that min, max hand back -/
theorem best_item {n : Nat} {xs : List V} {its : List Value} {l : List D} {i : Nat} {v : Value} {h' : Heap} {bs : List Addr} {d : D} {pins : List (Addr × Obj)} {σ : L2.St} {s : Shared} (hK : W.K = X.K) (I : Inv X pins σ H s) (hp : ∀ x ∈ l, D.pl n x = true) (rv : Vals xs its) (q : Reps W S H xs l)
    (hi : its[i]? = some v) (hr : Reads h' v (toP d) bs) (hd : d ∈ l) (kp : ∀ b o, s.heap.get? b = some o → h'.get? b = some o) : ∃ x, RelV x v ∧ Rep W S H x d := by
  obtain ⟨x, h1, h2⟩ : ∃ x, xs[i]? = some x ∧ RelV x v := by
    have hlt : i < xs.length := by rw [rv.length]; exact (List.getElem?_eq_some_iff.mp hi).1
    obtain ⟨u, e1, e2⟩ := rv.get (List.getElem?_eq_getElem hlt)
    rw [hi] at e1; cases e1
    exact ⟨_, List.getElem?_eq_getElem hlt, e2⟩
  obtain ⟨e, h3, h4⟩ := q.get' h1
  have hm := List.mem_of_getElem? h3
  obtain ⟨as, h5⟩ := Dp.reads I _ _ _ (hK ▸ Rep.dp n e x h4 (hp e hm)) h2
  have h6 := PyProof.Rows.Reads.keeps kp h5
  have e1 : toP e = toP d := PySem.SeqAt.plain_unique _ _ _ _ _ (plain_of (hp e hm)) h6 hr
  have e2 := toP_inj n n e d (hp e hm) (hp d hd) e1
  subst e2
  exact ⟨x, h2, h4⟩
theorem depthAll_le {n : Nat} : ∀ {l : List D}, (∀ x ∈ l, D.pl n x = true) → PyData.depthAll (toPs l) ≤ n
  | [], _ => by rw [toPs]; exact Nat.zero_le _
  | x :: xs, h => by
    rw [toPs]
    have a := (pl_toP n x (h x (by simp))).2
    have b := depthAll_le (l := xs) fun y hy => h y (by simp [hy])
    simp only [PyData.depthAll]
    omega
theorem plainAll_of {n : Nat} : ∀ {l : List D}, (∀ x ∈ l, D.pl n x = true) → D.pls n l = true
  | [], _ => by simp [D.pls]
  | x :: xs, h => by
    rw [D.pls, h x (by simp), plainAll_of (l := xs) fun y hy => h y (by simp [hy])]
    rfl
theorem cr_minB (hK : W.K = X.K) (hc : X.calm = true) (hu : X.A.units + 65 < cLine) : CallR X (.builtin "min") (rBlt W .min) := by
  intro pins s σ' H vs us Q I rv h
  obtain ⟨Z, S, ρ, σ, ds, Qs, r, hd, hb, k⟩ := h
  have go : ∀ (x : D) (l : List D) (v : V), (RepT W S H v (.lst (x :: l)) ∨ RepT W S H v (.tup (x :: l))) → vs = [v] → Wg.allAlike (x :: l) → Qs (.sh (Wg.minD x l)) → wpAny (model X.prog X.w) X.A (call (.builtin "min") us) (EP X pins σ' Q) X.xe s := by
    intro x l v hv e0 ha hq
    subst e0
    obtain ⟨u, rfl, ru⟩ := vals1 rv
    have hp : ∀ y ∈ x :: l, D.pl 8 y = true := fun y hy => (ha.2 y hy).1
    obtain ⟨a, xs, rfl, q1, q2⟩ := RepT.seq hv
    cases ru
    have hde := depthAll_le hp
    rw [toPs] at hde
    have hal : PySem.W.AlikeAll (toP x :: toPs l) := by
      refine ⟨?_, fun d hd => ?_⟩
      · have := alikeAll_of ha.1
        rw [← toPs_map, toPs] at this
        exact this
      · rw [← toPs] at hd
        obtain ⟨y, hy, rfl⟩ := mem_toPs hd
        exact nn_toP (ha.2 y hy).2
    rcases q1 with q1 | q1
    · obtain ⟨its, rv', hl, hz⟩ := I.list (hK ▸ q1)
      obtain ⟨as, hr⟩ := Dp.readsAll I _ _ its (hK ▸ Reps.dp 8 (x :: l) xs q2 (plainAll_of hp)) rv'
      rw [toPs] at hr
      refine PySem.W.min_list_data (I.ok.hd hc) hl.isList (by simpa using hr) hal (by omega) fun i v h' tk bs hi hrd kp => ?_
      rw [minD_toP l x ha.1] at hrd
      obtain ⟨y, r1, r2⟩ := best_item hK I hp rv' q2 (by simpa using hi) hrd (minD_mem x l) kp
      exact ⟨y, H, I.kept kp, r1, k.val r r2 hq⟩
    · obtain ⟨its, rv', hl, hz⟩ := I.tuple (hK ▸ q1)
      obtain ⟨as, hr⟩ := Dp.readsAll I _ _ its (hK ▸ Reps.dp 8 (x :: l) xs q2 (plainAll_of hp)) rv'
      rw [toPs] at hr
      refine PySem.W.min_tuple_data (I.ok.hd hc) hl (by simpa using hr) hal (by omega) fun i v h' tk bs hi hrd kp => ?_
      rw [minD_toP l x ha.1] at hrd
      obtain ⟨y, r1, r2⟩ := best_item hK I hp rv' q2 (by simpa using hi) hrd (minD_mem x l) kp
      exact ⟨y, H, I.kept kp, r1, k.val r r2 hq⟩
  unfold Wg.bltV at hb
  split at hb <;> try (first | contradiction | exact hb.elim)
  · unfold Wg.minL at hb
    split at hb
    · cases hd with
      | cons h1 h2 => cases h2; exact go _ _ _ (.inl h1) rfl hb.1 hb.2
    · exact hb.elim
  · unfold Wg.minL at hb
    split at hb
    · cases hd with
      | cons h1 h2 => cases h2; exact go _ _ _ (.inr h1) rfl hb.1 hb.2
    · exact hb.elim
  · rename_i i j e
    cases hd with
    | cons h1 h2 =>
      cases h2 with
      | cons h2 h3 =>
        cases h3; cases h1.int; cases h2.int
        exact call_min2 hc pins s σ' H _ us Q I rv ⟨i, j, rfl, k.val r (.int _) hb⟩
theorem cr_maxB (hK : W.K = X.K) (hc : X.calm = true) (hu : X.A.units + 65 < cLine) : CallR X (.builtin "max") (rBlt W .max) := by
  intro pins s σ' H vs us Q I rv h
  obtain ⟨Z, S, ρ, σ, ds, Qs, r, hd, hb, k⟩ := h
  have go : ∀ (x : D) (l : List D) (v : V), (RepT W S H v (.lst (x :: l)) ∨ RepT W S H v (.tup (x :: l))) → vs = [v] → Wg.allAlike (x :: l) → Qs (.sh (Wg.maxD x l)) → wpAny (model X.prog X.w) X.A (call (.builtin "max") us) (EP X pins σ' Q) X.xe s := by
    intro x l v hv e0 ha hq
    subst e0
    obtain ⟨u, rfl, ru⟩ := vals1 rv
    have hp : ∀ y ∈ x :: l, D.pl 8 y = true := fun y hy => (ha.2 y hy).1
    obtain ⟨a, xs, rfl, q1, q2⟩ := RepT.seq hv
    cases ru
    have hde := depthAll_le hp
    rw [toPs] at hde
    have hal : PySem.W.AlikeAll (toP x :: toPs l) := by
      refine ⟨?_, fun d hd => ?_⟩
      · have := alikeAll_of ha.1
        rw [← toPs_map, toPs] at this
        exact this
      · rw [← toPs] at hd
        obtain ⟨y, hy, rfl⟩ := mem_toPs hd
        exact nn_toP (ha.2 y hy).2
    rcases q1 with q1 | q1
    · obtain ⟨its, rv', hl, hz⟩ := I.list (hK ▸ q1)
      obtain ⟨as, hr⟩ := Dp.readsAll I _ _ its (hK ▸ Reps.dp 8 (x :: l) xs q2 (plainAll_of hp)) rv'
      rw [toPs] at hr
      refine PySem.W.max_list_data (I.ok.hd hc) hl.isList (by simpa using hr) hal (by omega) fun i v h' tk bs hi hrd kp => ?_
      rw [maxD_toP l x ha.1] at hrd
      obtain ⟨y, r1, r2⟩ := best_item hK I hp rv' q2 (by simpa using hi) hrd (maxD_mem x l) kp
      exact ⟨y, H, I.kept kp, r1, k.val r r2 hq⟩
    · obtain ⟨its, rv', hl, hz⟩ := I.tuple (hK ▸ q1)
      obtain ⟨as, hr⟩ := Dp.readsAll I _ _ its (hK ▸ Reps.dp 8 (x :: l) xs q2 (plainAll_of hp)) rv'
      rw [toPs] at hr
      refine PySem.W.max_tuple_data (I.ok.hd hc) hl (by simpa using hr) hal (by omega) fun i v h' tk bs hi hrd kp => ?_
      rw [maxD_toP l x ha.1] at hrd
      obtain ⟨y, r1, r2⟩ := best_item hK I hp rv' q2 (by simpa using hi) hrd (maxD_mem x l) kp
      exact ⟨y, H, I.kept kp, r1, k.val r r2 hq⟩
  unfold Wg.bltV at hb
  split at hb <;> try (first | contradiction | exact hb.elim)
  · unfold Wg.maxL at hb
    split at hb
    · cases hd with
      | cons h1 h2 => cases h2; exact go _ _ _ (.inl h1) rfl hb.1 hb.2
    · exact hb.elim
  · unfold Wg.maxL at hb
    split at hb
    · cases hd with
      | cons h1 h2 => cases h2; exact go _ _ _ (.inr h1) rfl hb.1 hb.2
    · exact hb.elim
  · rename_i i j e
    cases hd with
    | cons h1 h2 =>
      cases h2 with
      | cons h2 h3 =>
        cases h3; cases h1.int; cases h2.int
        exact call_max2 hc pins s σ' H _ us Q I rv ⟨i, j, rfl, k.val r (.int _) hb⟩
  · rename_i i j m e
    cases hd with
    | cons h1 h2 =>
      cases h2 with
      | cons h2 h3 =>
        cases h3 with
        | cons h3 h4 =>
          cases h4; cases h1.int; cases h2.int; cases h3.int
          cases rv with
          | cons r1 r2 =>
            cases r2 with
            | cons r2 r3 =>
              cases r3 with
              | cons r3 r4 =>
                cases r4
                obtain ⟨t1, rfl⟩ := r1
                obtain ⟨t2, rfl⟩ := r2
                obtain ⟨t3, rfl⟩ := r3
                exact max_three_ints (I.ok.hd hc) fun y h' tk kp => ⟨.int _, H, I.kept kp, ⟨_, rfl⟩, k.val r (.int _) hb⟩
end
end WgS
set_option Elab.async false
set_option linter.all false
set_option maxRecDepth 100000
set_option maxHeartbeats 1000000
/-! WgS: subscripts, slices, methods by values. -/
namespace WgS
open PySem PySem.Spec PyProof.Rows L2
open Wg (partD D Slot Opd Ex Exs Tg Tgs It Kvs Sts BOp COp Blt Mth LB)
section
variable {X : Cx} {W : Wd} {S : AS} {H : Hp}
theorem ixOf_eq (n : Nat) (i : Int) : Wg.ixOf n i = ixN n i := rfl
theorem atI_of {vs : List V} {l : List D} {i : Int} {d : D} (h : Reps W S H vs l) (e : (Wg.ixOf l.length i).bind (l[·]?) = some d) : ∃ v, atI vs i = some v ∧ Rep W S H v d := by
  rw [ixOf_eq, ← h.length] at e
  unfold atI
  cases q : ixN vs.length i with
  | none => rw [q] at e; simp at e
  | some j =>
    rw [q] at e
    simp only [Option.bind_some] at e ⊢
    exact h.get e
def rIdx (W : Wd) : R2 := fun x y H Q => ∃ S x' y' Qd, RepT W S H x x' ∧ RepT W S H y y' ∧ Wg.idxV x' y' Qd ∧ ∀ v d, Rep W S H v d → Qd d → Q v H
theorem ix_idx (hK : W.K = X.K) : IxR X (rIdx W) := by
  intro value slice pins s σ H x y v u Q I rx ry h hs
  obtain ⟨S, x', y', Qd, hx, hy, hi, k⟩ := h
  have go : rIx X.K x y H Q := by
    cases x' with
    | tup l =>
      cases y' with
      | int i =>
        cases hy.int
        obtain ⟨a, xs, rfl, h1, h2⟩ := Rep.tupv hx
        have hi : (match (Wg.ixOf l.length i).bind (l[·]?) with | some d => Qd d | none => False) := hi
        split at hi
        · rename_i d e
          obtain ⟨w, e1, e2⟩ := atI_of h2 e
          exact .inr (.inl ⟨a, xs, i, w, rfl, rfl, hK ▸ h1, e1, k _ _ e2 hi⟩)
        · exact hi.elim
      | _ => exact (show False from hi).elim
    | lst l =>
      cases y' with
      | int i =>
        cases hy.int
        obtain ⟨a, xs, rfl, h1, h2⟩ := hx.lst
        have hi : (match (Wg.ixOf l.length i).bind (l[·]?) with | some d => Qd d | none => False) := hi
        split at hi
        · rename_i d e
          obtain ⟨w, e1, e2⟩ := atI_of h2 e
          exact .inl ⟨a, xs, i, w, rfl, rfl, SqL.of h1, e1, k _ _ e2 hi⟩
        · exact hi.elim
      | _ => exact (show False from hi).elim
    | str l =>
      cases y' with
      | int i =>
        cases hy.int
        cases hx.str
        obtain ⟨hz, hi⟩ : l.length ≤ LB ∧ (match (Wg.ixOf l.length i).bind (l[·]?) with | some c => Qd (.str [c]) | none => False) := hi
        split at hi
        · rename_i d e
          refine .inr (.inr ⟨_, i, d, rfl, rfl, by rw [lenTA]; have := LB_line; omega, ?_, k _ _ (.str [d]) hi⟩)
          unfold atI
          rw [← ixOf_eq]
          simpa using e
        · exact hi.elim
      | _ => exact (show False from hi).elim
    | dct l => have h' : Rep W S H x (.dct l) := hx; cases h'
    | scr k' ns =>
      cases y' with
      | int i =>
        cases hy.int
        obtain ⟨a, rfl, h1⟩ := Rep.scrv hx
        have hi : (match (Wg.ixOf (ns.map D.int).length i).bind ((ns.map D.int)[·]?) with | some d => Qd d | none => False) := hi
        split at hi
        · rename_i d e
          obtain ⟨w, e1, e2⟩ := atI_of (Reps.ints (W := W) (S := S) (H := H) ns) e
          exact .inl ⟨a, _, i, w, rfl, rfl, hK ▸ h1, e1, k _ _ e2 hi⟩
        · exact hi.elim
      | _ => exact (show False from hi).elim
    | _ => exact (show False from hi).elim
  exact ix_seq value slice pins s σ H x y v u Q I rx ry go hs
theorem cutAt_eq {n d : Nat} {o : Option Int} {K : Nat → Prop} (h : Wg.cutAt n d (partD o) K) : K (HT.sIx n d o) := by
  cases o with
  | none => exact h
  | some v =>
    have h : K (if v < 0 then (max (v + (n : Int)) 0).toNat else (min v (n : Int)).toNat) := h
    have e : (if v < 0 then (max (v + (n : Int)) 0).toNat else (min v (n : Int)).toNat) = HT.sIx n d (some v) := by
      have q := HT.clip_eq v n d
      split
      · rename_i hv; rw [if_pos hv] at q; rw [q]; exact Int.toNat_natCast _
      · rename_i hv; rw [if_neg hv] at q; rw [q]; exact Int.toNat_natCast _
    rw [e] at h
    exact h
def rSlc (W : Wd) : V → Option Int → Option Int → Hp → VK → Prop := fun x lo hi H Q => ∃ Z S ρ σ x' Qs, R W Z S ρ σ H ∧ RepT W S H x x' ∧ Wg.slcV x' (partD lo) (partD hi) Qs ∧ Res W Z S ρ σ H Q Qs
theorem cutV_reps {vs : List V} {l : List D} (h : Reps W S H vs l) (lo hi : Option Int) : Reps W S H (cutV vs lo hi) ((l.drop (HT.sIx l.length 0 lo)).take (HT.sIx l.length l.length hi - HT.sIx l.length 0 lo)) := by
  unfold cutV
  rw [h.length]
  exact (h.drop _).take _
def rSlF (K : PySem.W.Frag) : V → Option Int → Option Int → Hp → VK → Prop := fun x lo hi H Q => ∃ a xs, x = .ref a ∧ SqT K H a xs ∧
  (HT.sIx xs.length 0 lo = 0 ∧ HT.sIx xs.length xs.length hi = xs.length → Q (.ref a) H) ∧ (∀ p ob, ob.dict = none → H p = none → Q (.ref p) (upd H p (.frz ob (.tup (cutV xs lo hi)))))
theorem sl_tupF : SlR X (rSlF X.K) := by
  intro pins s σ H x v vl vu lo hi sl Q I rx hs pl pu h
  obtain ⟨a, xs, rfl, hx, q1, q2⟩ := h
  cases rx
  obtain ⟨its, r, ht, hz⟩ := I.tuple hx
  have hlen : its.toArray.size = xs.length := by rw [List.size_toArray]; exact r.length.symm
  refine ⟨"tuple", _, PyProof.Rows.slot_tuple_getitem.lookup, ht.typeIs, ?_⟩
  by_cases hw : HT.sIx xs.length 0 lo = 0 ∧ HT.sIx xs.length xs.length hi = xs.length
  · exact getItem_tuple_whole ht hs pl pu (by rw [hlen]; exact hw) ⟨.ref a, H, I, rfl, q1 hw⟩
  · refine HT.getItem_tuple_cut ht hs pl pu (by rw [hlen]; exact hw) ?_ (by rw [hlen]; exact hz)
    rw [hlen]
    exact ⟨.ref s.heap.objs.size, _, laidT (xs := cutV xs lo hi) (t' := s.toks) I ((r.drop (HT.sIx xs.length 0 lo)).take (HT.sIx xs.length xs.length hi - HT.sIx xs.length 0 lo)) (Nat.le_trans (cutV_length xs lo hi) hz), rfl, q2 _ _ rfl (I.hok.fresh (Nat.le_refl _))⟩
theorem sl_slc (hK : W.K = X.K) : SlR X (rSlc W) := by
  intro pins s σ' H x v vl vu lo hi sl Q I rx hs pl pu h
  obtain ⟨Z, S, ρ, σ, x', Qs, r, hx, hq, k⟩ := h
  cases x' with
  | tup l =>
    obtain ⟨a, xs, rfl, h1, h2⟩ := Rep.tupv hx
    have hq : Wg.cutAt l.length 0 (partD lo) fun a => Wg.cutAt l.length l.length (partD hi) fun b => Qs (.sh (.tup ((l.drop a).take (b - a)))) := hq
    have q := cutAt_eq (cutAt_eq hq)
    refine sl_tupF pins s σ' H _ v vl vu lo hi sl Q I rx hs pl pu ⟨a, xs, rfl, hK ▸ h1, fun ⟨e1, e2⟩ => ?_, fun p ob hd hp => k.tup r hd hp (cutV_reps h2 lo hi) q⟩
    rw [h2.length] at e1 e2
    rw [e1, e2] at q
    simp only [List.drop_zero, Nat.sub_zero, List.take_length] at q
    exact k.val r hx q
  | lst l =>
    obtain ⟨a, xs, rfl, h1, h2⟩ := hx.lst
    have hq : Wg.cutAt l.length 0 (partD lo) fun a => Wg.cutAt l.length l.length (partD hi) fun b => Qs (.ol ((l.drop a).take (b - a))) := hq
    have q := cutAt_eq (cutAt_eq hq)
    exact sl_list pins s σ' H _ v vl vu lo hi sl Q I rx hs pl pu ⟨a, xs, rfl, SqL.of h1, fun p hp => k.lst r hp (cutV_reps h2 lo hi) q⟩
  | scr k' ns =>
    obtain ⟨a, rfl, h1⟩ := Rep.scrv hx
    have hq : Wg.cutAt ns.length 0 (partD lo) fun a => Wg.cutAt ns.length ns.length (partD hi) fun b => Qs (.ol (((ns.map D.int).drop a).take (b - a))) := hq
    have q := cutAt_eq (cutAt_eq hq)
    refine sl_list pins s σ' H _ v vl vu lo hi sl Q I rx hs pl pu ⟨a, _, rfl, hK ▸ h1, fun p hp => k.lst r hp (cutV_reps (Reps.ints ns) lo hi) ?_⟩
    rw [List.length_map]
    exact q
  | str l =>
    cases hx.str
    obtain ⟨hz, hq⟩ : l.length ≤ LB ∧ Wg.cutAt l.length 0 (partD lo) fun a => Wg.cutAt l.length l.length (partD hi) fun b => Qs (.sh (.str ((l.drop a).take (b - a)))) := hq
    have q := cutAt_eq (cutAt_eq hq)
    refine sl_str pins s σ' H _ v vl vu lo hi sl Q I rx hs pl pu ⟨_, rfl, by rw [lenTA]; have := LB_line; omega, ?_⟩
    have e : cutS ⟨l.toArray⟩ lo hi = ⟨((l.drop (HT.sIx l.length 0 lo)).take (HT.sIx l.length l.length hi - HT.sIx l.length 0 lo)).toArray⟩ := by
      unfold cutS
      rw [lenTA]
    rw [e]
    exact k.val r (.str _) q
  | _ => exact (show False from hq).elim
/-! ### methods that change nothing -/
theorem findIdx_toPs (x : D) : ∀ l : List D, ((toPs l).findIdx? fun z => PyData.eqv z (toP x)) = l.findIdx? fun z => D.eqv z x
  | [] => by rw [toPs]; rfl
  | y :: ys => by rw [toPs, List.findIdx?_cons, List.findIdx?_cons, findIdx_toPs x ys, eqv_toP]
theorem index_list {A : Around} {prog : Program} {w : World} {E : Value → Shared → Prop} {s : Shared} {l : Addr} {vs : List Value} {xs : List PyData} {x : Value} {d : PyData} {as bs : List Addr} {j : Nat} {Q : Value → Shared → Prop} (hl : s.heap.IsList l vs.toArray) (rs : ReadsAll s.heap vs xs as) (rx : Reads s.heap x d bs) (hxs : PyData.plainAll xs = true) (hd : d.plain = true)
    (hu : A.units + 1 + min (PyData.depthAll xs) d.depth < cLine) (hp : PySem.SeqAt.dataPlace xs d = some j) (hz : vs.length ≤ sizeLine) (h : Q (.int (j : Nat) s.toks) { s with toks := s.toks + 1 }) : wpAny (model prog w) A (call (.builtin "list.index") [.ref l, x]) Q E s := by
  obtain ⟨⟨cls, dd, data, sl⟩, ho, hc, n, hd'⟩ := id hl
  simp only at hc hd'
  subst hc hd'
  have rs' : ReadsAll s.heap vs.toArray.toList xs as := by simpa using rs
  obtain ⟨hj, hit, hno⟩ := PySem.SeqAt.hit_at rs' hxs hp
  rw [sizeLine_eq] at hz
  have hj2 : j < vs.length := by simpa using hj
  refine call_meets F.slot_list_index ⟨_, ho, rfl⟩ F.entry_list_index (F.args_list_index_2 _ _)
    (PySem.SeqAt.list_index2_found l vs.toArray n dd sl x (fun i => if hi : i < vs.toArray.size then PyData.eqv (PySem.SeqAt.readOf s.heap vs.toArray[i]) d else false) j hj (Nat.zero_le _) (by omega) ?_ ?_) ⟨ho, fun i hi => ?_, h⟩
  · simp only [hj, dif_pos]; exact hit
  · intro m hm _ hlt
    simp only [hm, dif_pos]; exact hno m hm hlt
  · simp only [hi, dif_pos]
    exact PySem.SeqAt.items_plain rs' rx hxs hd hu _ (Array.getElem_mem hi)
theorem index_tuple {A : Around} {prog : Program} {w : World} {E : Value → Shared → Prop} {s : Shared} {l : Addr} {vs : List Value} {xs : List PyData} {x : Value} {d : PyData} {as bs : List Addr} {j : Nat} {Q : Value → Shared → Prop} (hl : s.heap.IsTuple l vs.toArray) (rs : ReadsAll s.heap vs xs as) (rx : Reads s.heap x d bs) (hxs : PyData.plainAll xs = true) (hd : d.plain = true)
    (hu : A.units + 1 + min (PyData.depthAll xs) d.depth < cLine) (hp : PySem.SeqAt.dataPlace xs d = some j) (h : Q (.int (j : Nat) s.toks) { s with toks := s.toks + 1 }) : wpAny (model prog w) A (call (.builtin "tuple.index") [.ref l, x]) Q E s := by
  obtain ⟨⟨cls, dd, data, sl⟩, ho, hc, n, hd'⟩ := id hl
  simp only at hc hd'
  subst hc hd'
  have rs' : ReadsAll s.heap vs.toArray.toList xs as := by simpa using rs
  obtain ⟨hj, hit, hno⟩ := PySem.SeqAt.hit_at rs' hxs hp
  refine call_meets F.slot_tuple_index ⟨_, ho, rfl⟩ F.entry_tuple_index (F.args_tuple_index_2 _ _)
    (PySem.SeqAt.tuple_index2_found l vs.toArray n dd sl x (fun i => if hi : i < vs.toArray.size then PyData.eqv (PySem.SeqAt.readOf s.heap vs.toArray[i]) d else false) j hj (Nat.zero_le _) hj ?_ ?_) ⟨ho, fun i hi => ?_, h⟩
  · simp only [hj, dif_pos]; exact hit
  · intro m hm _ hlt
    simp only [hm, dif_pos]; exact hno m hm hlt
  · simp only [hi, dif_pos]
    exact PySem.SeqAt.items_plain rs' rx hxs hd hu _ (Array.getElem_mem hi)
def rMth (W : Wd) (m : Mth) : V → List V → Hp → VK → Prop := fun x vs H Q => ∃ Z S ρ σ x' ds Qs, R W Z S ρ σ H ∧ RepT W S H x x' ∧ RepTs W S H vs ds ∧ Wg.mthV m x' ds Qs ∧ Res W Z S ρ σ H Q Qs
/-- of a list -/
def rMthL (W : Wd) (m : Mth) : V → List V → Hp → VK → Prop := fun x vs H Q => ∃ Z S ρ σ l ds Qs, R W Z S ρ σ H ∧ RepT W S H x (.lst l) ∧ RepTs W S H vs ds ∧ Wg.mthV m (.lst l) ds Qs ∧ Res W Z S ρ σ H Q Qs
def rMthT (W : Wd) (m : Mth) : V → List V → Hp → VK → Prop := fun x vs H Q => ∃ Z S ρ σ l ds Qs, R W Z S ρ σ H ∧ RepT W S H x (.tup l) ∧ RepTs W S H vs ds ∧ Wg.mthV m (.tup l) ds Qs ∧ Res W Z S ρ σ H Q Qs
theorem mt_indexL (hK : W.K = X.K) (hu : X.A.units + 65 < cLine) : MtR X "list.index" (rMthL W .index) := by
  intro pins s σ' H x xs v us Q I rx rv h
  obtain ⟨Z, S, ρ, σ, l, ds, Qs, r, hx, hd, hm, k⟩ := h
  obtain ⟨y, rfl⟩ : ∃ y, ds = [y] := by
    rcases ds with _ | ⟨y, _ | ⟨z, t⟩⟩
    · exact (show False from hm).elim
    · exact ⟨y, rfl⟩
    · exact (show False from hm).elim
  obtain ⟨p1, p2, hm⟩ := hm
  replace hm : (match l.findIdx? (fun z => D.eqv z y) with | some k => Qs (.sh (.int k)) | none => False) := hm
  split at hm
  · rename_i j ej
    obtain ⟨a, ys, rfl, q1, q2⟩ := hx.lst
    cases rx
    obtain ⟨its, rv', hl, hz⟩ := I.list (SqL.of q1)
    cases hd with
    | cons h1 h2 =>
      cases h2
      cases rv with
      | cons r1 r2 =>
        cases r2
        obtain ⟨as, hr⟩ := Dp.readsAll I _ _ its (hK ▸ Reps.dp 9 l ys q2 p2) rv'
        obtain ⟨bs, hr2⟩ := reads_of hK I h1 p1 r1
        have d1 := (pl_toP 9 y p1).2
        have hlen := rv'.length
        refine index_list hl.isList hr hr2 (plains_of p2) (plain_of p1) (by omega) (j := j) ?_ (by omega) ⟨.int j, H, I.tok _, ⟨_, rfl⟩, k.val r (.int _) hm⟩
        unfold PySem.SeqAt.dataPlace
        rw [findIdx_toPs]; exact ej
  · exact hm.elim
theorem mt_indexT (hK : W.K = X.K) (hu : X.A.units + 65 < cLine) : MtR X "tuple.index" (rMthT W .index) := by
  intro pins s σ' H x xs v us Q I rx rv h
  obtain ⟨Z, S, ρ, σ, l, ds, Qs, r, hx, hd, hm, k⟩ := h
  obtain ⟨y, rfl⟩ : ∃ y, ds = [y] := by
    rcases ds with _ | ⟨y, _ | ⟨z, t⟩⟩
    · exact (show False from hm).elim
    · exact ⟨y, rfl⟩
    · exact (show False from hm).elim
  obtain ⟨p1, p2, hm⟩ := hm
  replace hm : (match l.findIdx? (fun z => D.eqv z y) with | some k => Qs (.sh (.int k)) | none => False) := hm
  split at hm
  · rename_i j ej
    obtain ⟨a, ys, rfl, q1, q2⟩ := Rep.tupv hx
    cases rx
    obtain ⟨its, rv', hl, hz⟩ := I.tuple (hK ▸ q1)
    cases hd with
    | cons h1 h2 =>
      cases h2
      cases rv with
      | cons r1 r2 =>
        cases r2
        obtain ⟨as, hr⟩ := Dp.readsAll I _ _ its (hK ▸ Reps.dp 9 l ys q2 p2) rv'
        obtain ⟨bs, hr2⟩ := reads_of hK I h1 p1 r1
        have d1 := (pl_toP 9 y p1).2
        have hlen := rv'.length
        refine index_tuple hl hr hr2 (plains_of p2) (plain_of p1) (by omega) (j := j) ?_ ⟨.int j, H, I.tok _, ⟨_, rfl⟩, k.val r (.int _) hm⟩
        unfold PySem.SeqAt.dataPlace
        rw [findIdx_toPs]; exact ej
  · exact hm.elim
theorem mt_countL (hK : W.K = X.K) (hu : X.A.units + 65 < cLine) : MtR X "list.count" (rMthL W .count) := by
  intro pins s σ' H x xs v us Q I rx rv h
  obtain ⟨Z, S, ρ, σ, l, ds, Qs, r, hx, hd, hm, k⟩ := h
  obtain ⟨y, rfl⟩ : ∃ y, ds = [y] := by
    rcases ds with _ | ⟨y, _ | ⟨z, t⟩⟩
    · exact (show False from hm).elim
    · exact ⟨y, rfl⟩
    · exact (show False from hm).elim
  obtain ⟨p1, p2, hm⟩ := hm
  obtain ⟨a, ys, rfl, q1, q2⟩ := hx.lst
  cases rx
  obtain ⟨its, rv', hl, hz⟩ := I.list (SqL.of q1)
  cases hd with
  | cons h1 h2 =>
    cases h2
    cases rv with
    | cons r1 r2 =>
      cases r2
      obtain ⟨as, hr⟩ := Dp.readsAll I _ _ its (hK ▸ Reps.dp 9 l ys q2 p2) rv'
      obtain ⟨bs, hr2⟩ := reads_of hK I h1 p1 r1
      have d1 := (pl_toP 9 y p1).2
      exact PySem.SeqAt.count_list_data hl.isList (by simpa using hr) hr2 (plains_of p2) (plain_of p1) (by omega) (by rw [countP_toPs]; exact ⟨.int _, H, I.tok _, ⟨_, rfl⟩, k.val r (.int _) hm⟩)
theorem mt_countT (hK : W.K = X.K) (hu : X.A.units + 65 < cLine) : MtR X "tuple.count" (rMthT W .count) := by
  intro pins s σ' H x xs v us Q I rx rv h
  obtain ⟨Z, S, ρ, σ, l, ds, Qs, r, hx, hd, hm, k⟩ := h
  obtain ⟨y, rfl⟩ : ∃ y, ds = [y] := by
    rcases ds with _ | ⟨y, _ | ⟨z, t⟩⟩
    · exact (show False from hm).elim
    · exact ⟨y, rfl⟩
    · exact (show False from hm).elim
  obtain ⟨p1, p2, hm⟩ := hm
  obtain ⟨a, ys, rfl, q1, q2⟩ := Rep.tupv hx
  cases rx
  obtain ⟨its, rv', hl, hz⟩ := I.tuple (hK ▸ q1)
  cases hd with
  | cons h1 h2 =>
    cases h2
    cases rv with
    | cons r1 r2 =>
      cases r2
      obtain ⟨as, hr⟩ := Dp.readsAll I _ _ its (hK ▸ Reps.dp 9 l ys q2 p2) rv'
      obtain ⟨bs, hr2⟩ := reads_of hK I h1 p1 r1
      have d1 := (pl_toP 9 y p1).2
      exact PySem.SeqAt.count_tuple_data hl (by simpa using hr) hr2 (plains_of p2) (plain_of p1) (by omega) (by rw [countP_toPs]; exact ⟨.int _, H, I.tok _, ⟨_, rfl⟩, k.val r (.int _) hm⟩)
end
end WgS
set_option Elab.async false
set_option linter.all false
set_option maxRecDepth 100000
set_option maxHeartbeats 1000000
/-! WgS: expressions. -/
namespace WgS
open PySem PySem.Spec PyProof.Rows L2
open Wg (D Slot Opd Ex Exs Tg Tgs Kvs Sts BOp COp Blt Mth LB)
section
variable {X : Cx}
theorem PE.imp {e : Expr} {t t' : TE} (h : PE X e t) (i : ∀ σ H Q, t' σ H Q → t σ H Q) : PE X e t' := ⟨fun pins s σ H Q I q => h.run pins s σ H Q I (i σ H Q q)⟩
theorem PT.imp {e : Expr} {t t' : TT} (h : PT X e t) (i : ∀ σ H Q, t' σ H Q → t σ H Q) : PT X e t' := ⟨fun pins s σ H Q I q => h.run pins s σ H Q I (i σ H Q q)⟩
theorem PA.imp {e : List Expr} {t t' : TA} (h : PA X e t) (i : ∀ σ H Q, t' σ H Q → t σ H Q) : PA X e t' := ⟨fun pos pins s σ H Q I q => h.run pos pins s σ H Q I (i σ H Q q)⟩
theorem PTs.imp {e : List Expr} {t t' : TT} (h : PTs X e t) (i : ∀ σ H Q, t' σ H Q → t σ H Q) : PTs X e t' := ⟨fun pins s σ H Q I q => h.run pins s σ H Q I (i σ H Q q)⟩
theorem PO.imp {e : Option Expr} {t t' : TO} (h : PO X e t) (i : ∀ σ H Q, t' σ H Q → t σ H Q) : PO X e t' := ⟨fun pins s σ H Q I q => h.run pins s σ H Q I (i σ H Q q)⟩
theorem PG.imp {e : Expr} {t t' : TG} (h : PG X e t) (i : ∀ v σ H Q, t' v σ H Q → t v σ H Q) : PG X e t' := ⟨fun pins s σ H v u Q I r q => h.run pins s σ H v u Q I r (i v σ H Q q)⟩
theorem PGs.imp {e : List Expr} {t t' : TGs} (h : PGs X e t) (i : ∀ v σ H Q, t' v σ H Q → t v σ H Q) : PGs X e t' := ⟨fun pins s σ H vs us Q I r q => h.run pins s σ H vs us Q I r (i vs σ H Q q)⟩
theorem PS.imp {e : Stmt} {t t' : TS} (h : PS X e t) (i : ∀ D σ H, t' D σ H → t D σ H) : PS X e t' := ⟨fun pins s σ H D I q => h.run pins s σ H D I (i D σ H q)⟩
theorem PSs.imp {e : List Stmt} {t t' : TS} (h : PSs X e t) (i : ∀ D σ H, t' D σ H → t D σ H) : PSs X e t' := ⟨fun pins s σ H D I q => h.run pins s σ H D I (i D σ H q)⟩
theorem PI.imp {tg e : Expr} {t t' : TI} (h : PI X tg e t) (i : ∀ σ H Q, t' σ H Q → t σ H Q) : PI X tg e t' := ⟨fun pins s σ H Q I q => h.run pins s σ H Q I (i σ H Q q)⟩
end
section
variable {W : Wd} {Z S S' : AS} {ρ ρ' : Wg.Env} {σ : L2.St} {H H' : Hp} {v : V}
theorem onB_inv {s : Slot} {K : Bool → Prop} (h : Wg.onB s K) : ∃ b, s = .sh (.bl b) ∧ K b := by
  unfold Wg.onB at h
  split at h
  · exact ⟨_, rfl, h⟩
  · exact h.elim
theorem RepS.eqBl {b : Bool} (h : RepS W Z S ρ σ H v (.sh (.bl b))) : v = .bl b := by
  have h' : Rep W S H v (.bl b) := h
  cases h'; rfl
theorem RepS.eqInt {b : Int} (h : RepS W Z S ρ σ H v (.sh (.int b))) : v = .int b := by
  have h' : Rep W S H v (.int b) := h
  cases h'; rfl
theorem R.live {i : Nat} (r : R W Z S ρ σ H) (h : Wg.live ρ i) : ∃ v, σ[i]? = some (some v) := by
  unfold Wg.live at h
  split at h
  · exact h.elim
  · exact h.elim
  · rename_i x n1 n2
    cases e : ρ[i]? with
    | none => exact (n2 e).elim
    | some s =>
      cases s with
      | un => exact (n1 e).elim
      | sh d => obtain ⟨v, h1, _⟩ := r.sh i d e; exact ⟨v, h1⟩
      | ol l => obtain ⟨a, xs, h1, _⟩ := r.ol i l e; exact ⟨_, h1⟩
      | od l => exact (r.od i l e).elim
/-- operands -/
inductive RepOs (W : Wd) (S : AS) (σ : L2.St) (H : Hp) : List V → List Opd → Prop
  | nil : RepOs W S σ H [] []
  | cons {v : V} {vs : List V} {o : Opd} {os : List Opd} : RepO W S σ H v o → RepOs W S σ H vs os → RepOs W S σ H (v :: vs) (o :: os)
theorem RepOs.get : ∀ {vs : List V} {os : List Opd} {K : List D → Prop}, R W Z S ρ σ H → RepOs W S σ H vs os → Wg.gets ρ os K → ∃ ds, K ds ∧ RepTs W S H vs ds
  | _, _, K, _, .nil, g => ⟨[], g, .nil⟩
  | _, _, K, r, .cons h t, g => by
    unfold Wg.gets at g
    obtain ⟨d, g1, rd⟩ := RepO.get r h g
    obtain ⟨ds, g2, rs⟩ := RepOs.get (K := fun ds => K (d :: ds)) r t g1
    exact ⟨d :: ds, g2, .cons rd rs⟩
theorem RepOs.ext : ∀ {vs : List V} {os : List Opd}, Ext Z S H S' H' → RepOs W S σ H vs os → RepOs W S' σ H' vs os
  | _, _, _, .nil => .nil
  | _, _, k, .cons h t => .cons (RepO.ext k h) (RepOs.ext k t)
end
/-! ### readings -/
/-- an expression -/
def tX (W : Wd) (Φ : Wg.Ctx) (e : Ex) : TE := fun σ H Q => ∃ Z S ρ Qs, R W Z S ρ σ H ∧ Wg.wX Φ e ρ Qs ∧
  ∀ v H' S' ρ' s, Ext Z S H S' H' → R W Z S' ρ' σ H' → RepS W Z S' ρ' σ H' v s → Qs s ρ' → Q v H'
/-- a test -/
def tBl (W : Wd) (Φ : Wg.Ctx) (e : Ex) : TT := fun σ H Q => ∃ Z S ρ, ∃ Qb : Bool → Wg.Env → Prop, R W Z S ρ σ H ∧ Wg.wX Φ e ρ (fun s ρ1 => Wg.onB s fun b => Qb b ρ1) ∧
  ∀ b H' S' ρ', Ext Z S H S' H' → R W Z S' ρ' σ H' → Qb b ρ' → Q b H'
/-- an operand -/
def tO (W : Wd) (Φ : Wg.Ctx) (e : Ex) : TE := fun σ H Q => ∃ Z S ρ Qo, R W Z S ρ σ H ∧ Wg.opd e (Wg.wX Φ e ρ) ρ Qo ∧
  ∀ v H' S' ρ' o, Ext Z S H S' H' → R W Z S' ρ' σ H' → RepO W S' σ H' v o → Qo o ρ' → Q v H'
/-- a slice's part -/
def tPrt (W : Wd) (Φ : Wg.Ctx) (e : Ex) : TO := fun σ H Q => ∃ Z S ρ Qo, R W Z S ρ σ H ∧ Wg.prt e (Wg.wX Φ e ρ) ρ Qo ∧
  ∀ i H' S' ρ', Ext Z S H S' H' → R W Z S' ρ' σ H' → Qo i ρ' → Q i H'
/-- operands, values, tests -/
def tOs (W : Wd) (Φ : Wg.Ctx) (es : Exs) : TA := fun σ H Q => ∃ Z S ρ Qo, R W Z S ρ σ H ∧ Wg.wOs Φ es ρ Qo ∧
  ∀ vs H' S' ρ' os, Ext Z S H S' H' → R W Z S' ρ' σ H' → RepOs W S' σ H' vs os → vs.length = es.len → Qo os ρ' → Q vs H'
def tVs (W : Wd) (Φ : Wg.Ctx) (es : Exs) : TA := fun σ H Q => ∃ Z S ρ Qo, R W Z S ρ σ H ∧ Wg.wVs Φ es ρ Qo ∧
  ∀ vs H' S' ρ' ds, Ext Z S H S' H' → R W Z S' ρ' σ H' → Reps W S' H' vs ds → vs.length = es.len → Qo ds ρ' → Q vs H'
def tCs (W : Wd) (Φ : Wg.Ctx) (es : Exs) : TT := fun σ H Q => ∃ Z S ρ, ∃ Qb : Bool → Wg.Env → Prop, R W Z S ρ σ H ∧ Wg.wCs Φ es ρ Qb ∧
  ∀ b H' S' ρ', Ext Z S H S' H' → R W Z S' ρ' σ H' → Qb b ρ' → Q b H'
section
variable {X : Cx} {W : Wd} {Φ : Wg.Ctx} {ex l r m : Expr} {pos : Pos} {a b c : Ex}
theorem snd_O {e : Ex} (h : PE X ex (tX W Φ e)) (hv : ∀ i, e = .var i → PE X ex (tVar i)) : PE X ex (tO W Φ e) := by
  have go : (∀ ρ Qo, Wg.opd e (Wg.wX Φ e ρ) ρ Qo → Wg.wX Φ e ρ fun s ρ' => Qo (.v s.val) ρ') → PE X ex (tO W Φ e) := fun f =>
    PE.imp h fun σ H Q ⟨Z, S, ρ, Qo, r, hw, k⟩ => ⟨Z, S, ρ, _, r, f ρ Qo hw, fun v H' S' ρ' s e1 r1 rs q => by
      obtain ⟨S2, e2, r2, rp⟩ := fin_val r1 rs
      exact k v H' S2 ρ' (.v s.val) (e1.trans e2) r2 rp q⟩
  cases e with
  | var i =>
    refine PE.imp (hv i rfl) fun σ H Q ⟨Z, S, ρ, Qo, r, hw, k⟩ => ?_
    obtain ⟨hl, hw⟩ := (show Wg.live ρ i ∧ Qo (.r i) ρ from hw)
    obtain ⟨v, hv⟩ := r.live hl
    exact ⟨v, hv, k v H S ρ (.r i) .refl r hv hw⟩
  | _ => exact go fun ρ Qo hw => hw
theorem snd_var {i : Nat} (h : PE X ex (tVar i)) : PE X ex (tX W Φ (.var i)) := by
  refine PE.imp h fun σ H Q ⟨Z, S, ρ, Qs, r, hw, k⟩ => ?_
  have hw : Wg.varX ρ i Qs := hw
  unfold Wg.varX at hw
  split at hw
  · rename_i d e
    obtain ⟨v, h1, h2⟩ := r.sh i d e
    exact ⟨v, h1, k v H S ρ (.sh d) .refl r h2 hw⟩
  · rename_i l e
    obtain ⟨p, h1, h2, h3, h4⟩ := r.freeze e
    exact ⟨_, h1, k _ H _ _ (.sh (.lst l)) h2 h3 h4 hw⟩
  · rename_i l e
    exact (r.od i l e).elim
  · exact hw.elim
theorem snd_lit {d : D} {v : V} (h : PE X ex (tC v)) (q : ∀ S H, Rep W S H v d) : PE X ex (tX W Φ (.lit d)) :=
  PE.imp h fun σ H Q ⟨Z, S, ρ, Qs, r, hw, k⟩ => k v H S ρ (.sh d) .refl r (q S H) hw
theorem snd_glb {g : Nat} {d : D} {v : V} (h : PE X ex (tC v)) (hg : Φ.G g = some d) (q : ∀ S H, Rep W S H v d) : PE X ex (tX W Φ (.glb g)) :=
  PE.imp h fun σ H Q ⟨Z, S, ρ, Qs, r, hw, k⟩ => by
    unfold Wg.wX at hw
    rw [hg] at hw
    exact k v H S ρ (.sh d) .refl r (q S H) hw
theorem snd_bin (hK : W.K = X.K) {o : BOp} (ha : PE X l (tO W Φ a)) (hb : PE X r (tO W Φ b)) : PE X (.BinOp l (opOf o) r pos) (tX W Φ (.bin o a b)) := by
  refine PE.imp (pe_op (op_bin hK o) ha hb) fun σ H Q ⟨Z, S, ρ, Qs, r, hw, k⟩ => ?_
  unfold Wg.wX at hw
  refine ⟨Z, S, ρ, _, r, hw, fun x H1 S1 ρ1 ox e1 r1 rx q1 => ⟨Z, S1, ρ1, _, r1, q1, fun y H2 S2 ρ2 oy e2 r2 ry q2 => ?_⟩⟩
  obtain ⟨x', q3, rx'⟩ := RepO.get r2 (RepO.ext e2 rx) q2
  obtain ⟨y', q4, ry'⟩ := RepO.get r2 ry q3
  exact ⟨Z, S2, ρ2, σ, x', y', _, r2, rx', ry', q4, fun v H' S' s e3 r3 rs q => k v H' S' ρ2 s ((e1.trans e2).trans e3) r3 rs q⟩
theorem snd_neg (ha : PE X l (tX W Φ a)) : PE X (.UnaryOp .USub l pos) (tX W Φ (.neg a)) := by
  refine PE.imp (pe_un un_neg ha) fun σ H Q ⟨Z, S, ρ, Qs, r, hw, k⟩ => ?_
  unfold Wg.wX at hw
  refine ⟨Z, S, ρ, _, r, hw, fun x H1 S1 ρ1 s e1 r1 rx q1 => ?_⟩
  split at q1
  · rename_i i
    exact ⟨i, rx.eqInt, k _ H1 S1 ρ1 (.sh (.int (-i))) e1 r1 (Rep.int _) q1⟩
  · exact q1.elim
theorem snd_not (ha : PE X l (tX W Φ a)) : PE X (.UnaryOp .Not l pos) (tX W Φ (.not a)) := by
  refine PE.imp (pe_not ha) fun σ H Q ⟨Z, S, ρ, Qs, r, hw, k⟩ => ?_
  unfold Wg.wX at hw
  refine ⟨Z, S, ρ, _, r, hw, fun x H1 S1 ρ1 s e1 r1 rx q1 => ?_⟩
  obtain ⟨b, rfl, q1⟩ := onB_inv q1
  exact ⟨b, rx.eqBl, k _ H1 S1 ρ1 (.sh (.bl (!b))) e1 r1 (Rep.bl _) q1⟩
theorem snd_notT (ha : PT X l (tBl W Φ a)) : PT X (.UnaryOp .Not l pos) (tBl W Φ (.not a)) := by
  refine PT.imp (pt_not ha) fun σ H Q ⟨Z, S, ρ, Qs, r, hw, k⟩ => ?_
  unfold Wg.wX at hw
  exact ⟨Z, S, ρ, fun b ρ1 => Qs (!b) ρ1, r, hw, fun b H1 S1 ρ1 e1 r1 q1 => k _ H1 S1 ρ1 e1 r1 q1⟩
theorem tTest_of {e : Ex} {t : TE} (i : ∀ σ H Q, tX W Φ e σ H Q → t σ H Q) : ∀ σ H Q, tBl W Φ e σ H Q → tTest t σ H Q := fun σ H Q ⟨Z, S, ρ, Qb, r, hw, k⟩ =>
  i σ H _ ⟨Z, S, ρ, _, r, hw, fun x H1 S1 ρ1 s e1 r1 rx q1 => by
    obtain ⟨b, rfl, q1⟩ := onB_inv q1
    exact ⟨b, rx.eqBl, k b H1 S1 ρ1 e1 r1 q1⟩⟩
theorem snd_val {e : Ex} (h : PE X ex (tX W Φ e)) (he : ∀ whole, isTrue ex X.env whole = (do let v ← whole; standAt ex.pos; holding [v] (truthy v))) : PT X ex (tBl W Φ e) :=
  PT.imp (pt_val h he) (tTest_of fun _ _ _ q => q)
theorem cmp_imp {o : COp} : ∀ σ H Q, tX W Φ (.cmp o a b) σ H Q → tOp (rCmp W o) (tO W Φ a) (tO W Φ b) σ H Q := fun σ H Q ⟨Z, S, ρ, Qs, r, hw, k⟩ => by
  unfold Wg.wX at hw
  refine ⟨Z, S, ρ, _, r, hw, fun x H1 S1 ρ1 ox e1 r1 rx q1 => ⟨Z, S1, ρ1, _, r1, q1, fun y H2 S2 ρ2 oy e2 r2 ry q2 => ?_⟩⟩
  obtain ⟨x', q3, rx'⟩ := RepO.get r2 (RepO.ext e2 rx) q2
  obtain ⟨y', q4, ry'⟩ := RepO.get r2 ry q3
  exact ⟨S2, x', y', _, rx', ry', q4, fun b q => k (.bl b) H2 S2 ρ2 (.sh (.bl b)) (e1.trans e2) r2 (Rep.bl b) q⟩
theorem behind_pl {op : CmpOp} {e : Expr} (h : plB e = true) : behindInMarks op e = false := by
  cases e <;> first | rfl | cases h
theorem snd_cmp (hK : W.K = X.K) (hu : X.A.units + 65 < cLine) {o : COp} (ha : PE X l (tO W Φ a)) (hb : PE X r (tO W Φ b)) (hp : plB r = true) :
    PE X (.Compare l [copOf o] [r] pos) (tX W Φ (.cmp o a b)) ∧ PT X (.Compare l [copOf o] [r] pos) (tBl W Φ (.cmp o a b)) :=
  ⟨PE.imp (pe_cmpR (op_cmp hK hu o) ha hb (behind_pl hp)) cmp_imp, PT.imp (pt_cmpR (op_cmp hK hu o) ha hb (behind_pl hp)) (tTest_of cmp_imp)⟩
theorem chn_imp {o1 o2 : COp} : ∀ σ H Q, tX W Φ (.chn o1 o2 a b c) σ H Q → tChain (rCmp W o1) (rCmp W o2) (tO W Φ a) (tO W Φ b) (tO W Φ c) σ H Q := fun σ H Q ⟨Z, S, ρ, Qs, r, hw, k⟩ => by
  unfold Wg.wX at hw
  refine ⟨Z, S, ρ, _, r, hw, fun x H1 S1 ρ1 ox e1 r1 rx q1 => ⟨Z, S1, ρ1, _, r1, q1, fun y H2 S2 ρ2 oy e2 r2 ry q2 => ?_⟩⟩
  obtain ⟨x', q3, rx'⟩ := RepO.get r2 (RepO.ext e2 rx) q2
  obtain ⟨y', q4, ry'⟩ := RepO.get r2 ry q3
  refine ⟨S2, x', y', _, rx', ry', q4, fun b1 q5 => ⟨b1, rfl, ?_⟩⟩
  cases b1 with
  | false => exact k (.bl false) H2 S2 ρ2 (.sh (.bl false)) (e1.trans e2) r2 (Rep.bl _) q5
  | true =>
    rw [cond_true] at q5
    refine ⟨Z, S2, ρ2, _, r2, q5, fun z H3 S3 ρ3 oz e3 r3 rz q6 => ?_⟩
    obtain ⟨y', q7, ry'⟩ := RepO.get r3 (RepO.ext e3 ry) q6
    obtain ⟨z', q8, rz'⟩ := RepO.get r3 rz q7
    exact ⟨S3, y', z', _, ry', rz', q8, fun b q => k (.bl b) H3 S3 ρ3 (.sh (.bl b)) ((e1.trans e2).trans e3) r3 (Rep.bl b) q⟩
theorem snd_chn (hK : W.K = X.K) (hu : X.A.units + 65 < cLine) {o1 o2 : COp} (ha : PE X l (tO W Φ a)) (hb : PE X m (tO W Φ b)) (hc : PE X r (tO W Φ c)) (hp : plB r = true) :
    PE X (.Compare l [copOf o1, copOf o2] [m, r] pos) (tX W Φ (.chn o1 o2 a b c)) ∧ PT X (.Compare l [copOf o1, copOf o2] [m, r] pos) (tBl W Φ (.chn o1 o2 a b c)) :=
  ⟨PE.imp (pe_chain (op_cmp hK hu o1) (op_cmp hK hu o2) ha hb hc (behind_pl hp)) chn_imp, PT.imp (pt_chain (op_cmp hK hu o1) (op_cmp hK hu o2) ha hb hc (behind_pl hp)) (tTest_of chn_imp)⟩
/-! ### and, or, if -/
theorem and_imp : ∀ σ H Q, tX W Φ (.and a b) σ H Q → tAndV (tX W Φ a) (tX W Φ b) σ H Q := fun σ H Q ⟨Z, S, ρ, Qs, r, hw, k⟩ => by
  unfold Wg.wX at hw
  refine ⟨Z, S, ρ, _, r, hw, fun x H1 S1 ρ1 s e1 r1 rx q1 => ?_⟩
  obtain ⟨b1, rfl, q1⟩ := onB_inv q1
  refine ⟨b1, rx.eqBl, ?_⟩
  cases b1 with
  | false => exact k _ H1 S1 ρ1 (.sh (.bl false)) e1 r1 (Rep.bl _) q1
  | true =>
    refine ⟨Z, S1, ρ1, _, r1, q1, fun y H2 S2 ρ2 s2 e2 r2 ry q2 => ?_⟩
    obtain ⟨b2, rfl, q2⟩ := onB_inv q2
    exact k y H2 S2 ρ2 (.sh (.bl b2)) (e1.trans e2) r2 ry q2
theorem or_imp : ∀ σ H Q, tX W Φ (.or a b) σ H Q → tOrV (tX W Φ a) (tX W Φ b) σ H Q := fun σ H Q ⟨Z, S, ρ, Qs, r, hw, k⟩ => by
  unfold Wg.wX at hw
  refine ⟨Z, S, ρ, _, r, hw, fun x H1 S1 ρ1 s e1 r1 rx q1 => ?_⟩
  obtain ⟨b1, rfl, q1⟩ := onB_inv q1
  refine ⟨b1, rx.eqBl, ?_⟩
  cases b1 with
  | true => exact k _ H1 S1 ρ1 (.sh (.bl true)) e1 r1 (Rep.bl _) q1
  | false =>
    refine ⟨Z, S1, ρ1, _, r1, q1, fun y H2 S2 ρ2 s2 e2 r2 ry q2 => ?_⟩
    obtain ⟨b2, rfl, q2⟩ := onB_inv q2
    exact k y H2 S2 ρ2 (.sh (.bl b2)) (e1.trans e2) r2 ry q2
theorem andT_imp : ∀ σ H Q, tBl W Φ (.and a b) σ H Q → tAnd (tBl W Φ a) (tBl W Φ b) σ H Q := fun σ H Q ⟨Z, S, ρ, Qs, r, hw, k⟩ => by
  unfold Wg.wX at hw
  refine ⟨Z, S, ρ, _, r, hw, fun b1 H1 S1 ρ1 e1 r1 q1 => ?_⟩
  cases b1 with
  | false => exact k _ H1 S1 ρ1 e1 r1 q1
  | true =>
    refine ⟨Z, S1, ρ1, Qs, r1, ?_, fun b2 H2 S2 ρ2 e2 r2 q2 => k b2 H2 S2 ρ2 (e1.trans e2) r2 q2⟩
    exact q1
theorem orT_imp : ∀ σ H Q, tBl W Φ (.or a b) σ H Q → tOr (tBl W Φ a) (tBl W Φ b) σ H Q := fun σ H Q ⟨Z, S, ρ, Qs, r, hw, k⟩ => by
  unfold Wg.wX at hw
  refine ⟨Z, S, ρ, _, r, hw, fun b1 H1 S1 ρ1 e1 r1 q1 => ?_⟩
  cases b1 with
  | true => exact k _ H1 S1 ρ1 e1 r1 q1
  | false =>
    refine ⟨Z, S1, ρ1, Qs, r1, ?_, fun b2 H2 S2 ρ2 e2 r2 q2 => k b2 H2 S2 ρ2 (e1.trans e2) r2 q2⟩
    exact q1
theorem PT.pwB {op : BoolOp} {xs : List Expr} {t : TT} (h : PT X (.BoolOp op xs pos) t) : PW X (.BoolOp op xs pos) t := ⟨fun whole pins s σ H Q I q => by
  have e : isTrue (.BoolOp op xs pos) X.env whole = isTrue (.BoolOp op xs pos) X.env (eval (.BoolOp op xs pos) X.env) := rfl
  rw [e]
  exact h.run pins s σ H Q I q⟩
theorem snd_and1 (ha : PE X l (tX W Φ a)) (hta : PT X l (tBl W Φ a)) (hb : PE X r (tX W Φ b)) (htb : PT X r (tBl W Φ b)) :
    PE X (.BoolOp .And [l, r] pos) (tX W Φ (.and a b)) ∧ PT X (.BoolOp .And [l, r] pos) (tBl W Φ (.and a b)) :=
  ⟨PE.imp (pe_and ha (pe_one hb)) and_imp, PT.imp (pw_and hta (pw_and1 htb)).pt andT_imp⟩
theorem snd_or1 (ha : PE X l (tX W Φ a)) (hta : PT X l (tBl W Φ a)) (hb : PE X r (tX W Φ b)) (htb : PT X r (tBl W Φ b)) :
    PE X (.BoolOp .Or [l, r] pos) (tX W Φ (.or a b)) ∧ PT X (.BoolOp .Or [l, r] pos) (tBl W Φ (.or a b)) :=
  ⟨PE.imp (pe_or ha (pe_one hb)) or_imp, PT.imp (pw_or hta (pw_or1 htb)).pt orT_imp⟩
theorem snd_and2 {z : Expr} {xs : List Expr} (ha : PE X l (tX W Φ a)) (hta : PT X l (tBl W Φ a)) (hb : PE X (.BoolOp .And (r :: z :: xs) pos) (tX W Φ b)) (htb : PT X (.BoolOp .And (r :: z :: xs) pos) (tBl W Φ b)) :
    PE X (.BoolOp .And (l :: r :: z :: xs) pos) (tX W Φ (.and a b)) ∧ PT X (.BoolOp .And (l :: r :: z :: xs) pos) (tBl W Φ (.and a b)) :=
  ⟨PE.imp (pe_and ha hb) and_imp, PT.imp (pw_and hta (PT.pwB htb)).pt andT_imp⟩
theorem snd_or2 {z : Expr} {xs : List Expr} (ha : PE X l (tX W Φ a)) (hta : PT X l (tBl W Φ a)) (hb : PE X (.BoolOp .Or (r :: z :: xs) pos) (tX W Φ b)) (htb : PT X (.BoolOp .Or (r :: z :: xs) pos) (tBl W Φ b)) :
    PE X (.BoolOp .Or (l :: r :: z :: xs) pos) (tX W Φ (.or a b)) ∧ PT X (.BoolOp .Or (l :: r :: z :: xs) pos) (tBl W Φ (.or a b)) :=
  ⟨PE.imp (pe_or ha hb) or_imp, PT.imp (pw_or hta (PT.pwB htb)).pt orT_imp⟩
theorem pt_ifExp {c a b : Expr} {tc ta tb : TT} (hc : PT X c tc) (ha : PT X a ta) (hb : PT X b tb) : PT X (.IfExp c a b pos) (fun σ H Q => tc σ H fun k H1 => if k = true then ta σ H1 Q else tb σ H1 Q) := by
  refine ⟨fun pins s σ H Q I h => isTrue_IfExp (thn (hc.run pins s σ H _ I h) fun k s1 ⟨H1, I1, q1⟩ => ?_)⟩
  cases k with
  | true => exact ha.run pins s1 σ H1 Q I1 q1
  | false => exact hb.run pins s1 σ H1 Q I1 q1
theorem snd_ife (hc : PT X m (tBl W Φ c)) (ha : PE X l (tX W Φ a)) (hta : PT X l (tBl W Φ a)) (hb : PE X r (tX W Φ b)) (htb : PT X r (tBl W Φ b)) :
    PE X (.IfExp m l r pos) (tX W Φ (.ife c a b)) ∧ PT X (.IfExp m l r pos) (tBl W Φ (.ife c a b)) := by
  refine ⟨PE.imp (pe_ifExp hc ha hb) fun σ H Q ⟨Z, S, ρ, Qs, r, hw, k⟩ => ?_, PT.imp (pt_ifExp hc hta htb) fun σ H Q ⟨Z, S, ρ, Qs, r, hw, k⟩ => ?_⟩
  · unfold Wg.wX at hw
    refine ⟨Z, S, ρ, _, r, hw, fun t H1 S1 ρ1 e1 r1 q1 => ?_⟩
    cases t with
    | true => exact ⟨Z, S1, ρ1, _, r1, q1, fun v H2 S2 ρ2 s e2 r2 rs q => k v H2 S2 ρ2 s (e1.trans e2) r2 rs q⟩
    | false => exact ⟨Z, S1, ρ1, _, r1, q1, fun v H2 S2 ρ2 s e2 r2 rs q => k v H2 S2 ρ2 s (e1.trans e2) r2 rs q⟩
  · unfold Wg.wX at hw
    refine ⟨Z, S, ρ, _, r, hw, fun t H1 S1 ρ1 e1 r1 q1 => ?_⟩
    cases t with
    | true => exact ⟨Z, S1, ρ1, Qs, r1, q1, fun v H2 S2 ρ2 e2 r2 q => k v H2 S2 ρ2 (e1.trans e2) r2 q⟩
    | false => exact ⟨Z, S1, ρ1, Qs, r1, q1, fun v H2 S2 ρ2 e2 r2 q => k v H2 S2 ρ2 (e1.trans e2) r2 q⟩
/-! ### lists of expressions -/
variable {es : Exs} {xs : List Expr}
theorem star_pl {e : Expr} {es : List Expr} {env : PySem.Env} (h : plB e = true) : starEach (e :: es) env = (false, eval e env) :: starEach es env := by
  cases e <;> first | rfl | cases h
theorem snd_Os0 : PA X [] (tOs W Φ .n) := PA.imp pa_nil fun σ H Q ⟨Z, S, ρ, Qs, r, hw, k⟩ => k [] H S ρ [] .refl r .nil rfl hw
theorem snd_Os1 (ha : PE X l (tO W Φ a)) (hs : PA X xs (tOs W Φ es)) (hp : plB l = true) : PA X (l :: xs) (tOs W Φ (.c a es)) := by
  refine PA.imp (pa_cons ha hs (star_pl hp)) fun σ H Q ⟨Z, S, ρ, Qs, r, hw, k⟩ => ?_
  unfold Wg.wOs at hw
  exact ⟨Z, S, ρ, _, r, hw, fun x H1 S1 ρ1 o e1 r1 rx q1 => ⟨Z, S1, ρ1, _, r1, q1, fun vs H2 S2 ρ2 os e2 r2 rs hl q2 =>
    k (x :: vs) H2 S2 ρ2 (o :: os) (e1.trans e2) r2 (.cons (RepO.ext e2 rx) rs) (by rw [List.length_cons, hl]; rfl) q2⟩⟩
theorem snd_Vs0 : PA X [] (tVs W Φ .n) := PA.imp pa_nil fun σ H Q ⟨Z, S, ρ, Qs, r, hw, k⟩ => k [] H S ρ [] .refl r .nil rfl hw
theorem snd_Vs1 (ha : PE X l (tX W Φ a)) (hs : PA X xs (tVs W Φ es)) (hp : plB l = true) : PA X (l :: xs) (tVs W Φ (.c a es)) := by
  refine PA.imp (pa_cons ha hs (star_pl hp)) fun σ H Q ⟨Z, S, ρ, Qs, r, hw, k⟩ => ?_
  unfold Wg.wVs at hw
  refine ⟨Z, S, ρ, _, r, hw, fun x H1 S1 ρ1 s e1 r1 rx q1 => ?_⟩
  obtain ⟨S1', e1', r1', rx'⟩ := fin_val r1 rx
  exact ⟨Z, S1', ρ1, _, r1', q1, fun vs H2 S2 ρ2 os e2 r2 rs hl q2 =>
    k (x :: vs) H2 S2 ρ2 (s.val :: os) ((e1.trans e1').trans e2) r2 (.cons (Rep.mono e2.s _ _ rx') rs) (by rw [List.length_cons, hl]; rfl) q2⟩
theorem snd_Cs0 : PTs X [] (tCs W Φ .n) := PTs.imp pts_nil fun σ H Q ⟨Z, S, ρ, Qs, r, hw, k⟩ => k true H S ρ .refl r hw
theorem snd_Cs1 (ha : PT X l (tBl W Φ a)) : PTs X [l] (tCs W Φ (.c a .n)) := PTs.imp (pts_one ha) fun σ H Q ⟨Z, S, ρ, Qs, r, hw, k⟩ => ⟨Z, S, ρ, Qs, r, hw, k⟩
/-- a tuple just written, its object known -/
theorem pe_tupF {x1} {es : List Expr} {t : TA} (h : PA X es t) : PE X (.Tuple es x1 pos) (fun σ H Q => t σ H fun xs H1 => xs.length ≤ sizeLine ∧ ∀ p ob, ob.dict = none → H1 p = none → Q (.ref p) (upd H1 p (.frz ob (.tup xs)))) := by
  refine ⟨fun pins s σ H Q I hq => ?_⟩
  refine wpAny_Tuple_spliced (thn (h.run pos pins s σ H _ I hq) fun us s1 ⟨xs, H1, I1, r, z, q⟩ => ⟨by rw [← r.length]; exact z, ?_⟩)
  have hf : H1 s1.heap.objs.size = none := I1.hok.fresh (Nat.le_refl _)
  exact ⟨.ref s1.heap.objs.size, _, laidT (t' := s1.toks) I1 r z, rfl, q _ _ rfl hf⟩
theorem snd_tup {x1} (hl : es.len ≤ 1000) (h : PA X xs (tVs W Φ es)) : PE X (.Tuple xs x1 pos) (tX W Φ (.tup es)) := by
  refine PE.imp (pe_tupF h) fun σ H Q ⟨Z, S, ρ, Qs, r, hw, k⟩ => ?_
  unfold Wg.wX at hw
  refine ⟨Z, S, ρ, _, r, hw, fun vs H1 S1 ρ1 ds e1 r1 rs hn q1 => ⟨by rw [hn, sizeLine_eq]; omega, fun p ob hd hp => ?_⟩⟩
  exact Res.tup (Q := Q) (Qs := fun s => Qs s ρ1) (fun v H' S' s e2 r2 rv q => k v H' S' ρ1 s (e1.trans e2) r2 rv q) r1 hd hp rs q1
theorem snd_lst (hl : es.len ≤ 1000) (h : PA X xs (tVs W Φ es)) : PE X (.List xs pos) (tX W Φ (.lst es)) := by
  refine PE.imp (pe_lst h) fun σ H Q ⟨Z, S, ρ, Qs, r, hw, k⟩ => ?_
  unfold Wg.wX at hw
  refine ⟨Z, S, ρ, _, r, hw, fun vs H1 S1 ρ1 ds e1 r1 rs hn q1 => ⟨by rw [hn, sizeLine_eq]; omega, fun p hp => ?_⟩⟩
  exact Res.lst (Q := Q) (Qs := fun s => Qs s ρ1) (fun v H' S' s e2 r2 rv q => k v H' S' ρ1 s (e1.trans e2) r2 rv q) r1 hp rs q1
/-! ### subscripts -/
theorem plainIx_pl {e : Expr} (h : plB e = true) : PlainIx e := by
  intro o i
  cases e <;> first | rfl | cases h
theorem snd_idx (hK : W.K = X.K) (ha : PE X l (tO W Φ a)) (hb : PE X r (tO W Φ b)) (hp : plB r = true) : PE X (.Subscript l r pos) (tX W Φ (.idx a b)) := by
  refine PE.imp (pe_ix (ix_idx hK) ha hb (plainIx_pl hp)) fun σ H Q ⟨Z, S, ρ, Qs, r, hw, k⟩ => ?_
  unfold Wg.wX at hw
  refine ⟨Z, S, ρ, _, r, hw, fun x H1 S1 ρ1 ox e1 r1 rx q1 => ⟨Z, S1, ρ1, _, r1, q1, fun y H2 S2 ρ2 oy e2 r2 ry q2 => ?_⟩⟩
  obtain ⟨x', q3, rx'⟩ := RepO.get r2 (RepO.ext e2 rx) q2
  obtain ⟨y', q4, ry'⟩ := RepO.get r2 ry q3
  exact ⟨S2, x', y', _, rx', ry', q4, fun v d rv q => k v H2 S2 ρ2 (.sh d) (e1.trans e2) r2 rv q⟩
theorem snd_prt0 : PO X none (tPrt W Φ .noPart) := PO.imp po_none fun σ H Q ⟨Z, S, ρ, Qs, r, hw, k⟩ => k none H S ρ .refl r hw
theorem snd_prt1 (hn : ∀ q : a = .noPart, False) (ha : PE X l (tX W Φ a)) : PO X (some l) (tPrt W Φ a) := by
  refine PO.imp (po_some ha) fun σ H Q ⟨Z, S, ρ, Qs, r, hw, k⟩ => ⟨Z, S, ρ, fun s ρ' => match s with | .sh (.int i) => Qs (some i) ρ' | _ => False, r, ?_, fun x H1 S1 ρ1 s e1 r1 rx q1 => ?_⟩
  · cases a <;> first | exact hw | exact (hn rfl).elim
  · dsimp only at q1
    split at q1
    · rename_i i
      exact ⟨i, rx.eqInt, k (some i) H1 S1 ρ1 e1 r1 q1⟩
    · exact q1.elim
theorem snd_slc (hK : W.K = X.K) {lo hi : Option Expr} {p2 : Pos} (ha : PE X l (tO W Φ a)) (hl : PO X lo (tPrt W Φ b)) (hh : PO X hi (tPrt W Φ c)) : PE X (.Subscript l (.Slice lo hi none p2) pos) (tX W Φ (.slc a b c)) := by
  refine PE.imp (pe_slice (sl_slc hK) ha hl hh) fun σ H Q ⟨Z, S, ρ, Qs, r, hw, k⟩ => ?_
  unfold Wg.wX at hw
  refine ⟨Z, S, ρ, _, r, hw, fun x H1 S1 ρ1 ox e1 r1 rx q1 => ⟨Z, S1, ρ1, _, r1, q1, fun y H2 S2 ρ2 e2 r2 q2 => ⟨Z, S2, ρ2, _, r2, q2, fun z H3 S3 ρ3 e3 r3 q3 => ?_⟩⟩⟩
  obtain ⟨x', q4, rx'⟩ := RepO.get r3 (RepO.ext (e2.trans e3) rx) q3
  exact ⟨Z, S3, ρ3, σ, x', _, r3, rx', q4, fun v H' S' s e4 r4 rs q => k v H' S' ρ3 s ((e1.trans e2).trans (e3.trans e4)) r4 rs q⟩
end
end WgS
set_option Elab.async false
set_option linter.all false
set_option maxRecDepth 100000
set_option maxHeartbeats 1000000
/-! WgS: calls. -/
namespace WgS
open PySem PySem.Spec PyProof.Rows L2
open Wg (D Slot Opd Ex Exs Tg Tgs Kvs Sts BOp COp Blt Mth LB)
/-- what a function of the table does -/
def SpF (W : Wd) (F : Nat → List D → (D → Prop) → Prop) (f : Nat) : Sp := fun vs H Q E => ∃ (S : AS) (ds : List D) (Qd : D → Prop), (∀ a, S a → H a ≠ none ∧ W.P ≠ some a) ∧ (∀ p, W.P = some p → S W.ps ∧ Pool0 W H p) ∧ Reps W S H vs ds ∧ F f ds Qd ∧
  ∀ v H' S' d, (∀ a, H a ≠ none → W.P ≠ some a → H' a = H a) → (∀ p, W.P = some p → Pool0 W H' p) → (∀ a, S' a → (S a ∨ H a = none) ∧ H' a ≠ none) → Rep W S' H' v d → Qd d → Q v H'
abbrev CX0 : CXT := fun _ _ _ _ _ _ => False
structure Good (T : Tab) (W : Wd) (Φ : Wg.Ctx) (N : List Str) (X : Cx) : Prop where
  calm : X.calm = true
  hK : W.K = X.K
  hN : X.N = N
  nd : N.Nodup
  xe : X.xe = fun _ _ => False
  hu : X.A.units + 65 < cLine
  blt : ∀ b x, bltName b = some x → X.mg x = none
  rng : X.mg "range" = none
  zp : X.mg "zip" = none
  st : X.mg "set" = none
  fn : ∀ f x, T.fn f = some x → ∃ a fd ps k, X.mg x = some (.ref a) ∧ PySem.W.keepIn X.K (.ref a) = true ∧ Binds X.K fd ps [] ∧ Room k X.A ∧ FnOk X.prog X.w X.K X.mg X.base CX0 k a fd ps (SpF W Φ.F f)
  kp : ∀ i, T.keep i = false → W.keep i = none
  con : ∀ g x, T.con g = some x → ∃ v u d, X.mg x = some u ∧ RelV v u ∧ Φ.G g = some d ∧ ∀ S H, Rep W S H v d
theorem Good.blk {T : Tab} {W : Wd} {Φ : Wg.Ctx} {N : List Str} {X : Cx} (g : Good T W Φ N X) (s : Shared) (H : Hp) (scope : Scope) (C : Addr) (cl : List (Str × Addr)) (fp : List Addr) : Good T W Φ N (X.blk s H scope (compEnvC scope cl C X.env) fp) :=
  ⟨g.calm, g.hK, g.hN, g.nd, rfl, g.hu, g.blt, g.rng, g.zp, g.st, g.fn, g.kp, g.con⟩
section
variable {W : Wd} {Z S S' : AS} {ρ ρ' : Wg.Env} {σ : L2.St} {H H' : Hp} {v : V} {p : Addr}
/-- the addresses of the operands' own lists -/
def OwnA (ρ : Wg.Env) (σ : L2.St) (os : List Opd) : AS := fun a => ∃ i, Opd.r i ∈ os ∧ isOwn ρ[i]? ∧ σ[i]? = some (some (.ref a))
theorem RepO.getS {o : Opd} {K : D → Prop} (r : R W Z S ρ σ H) (h : RepO W S σ H v o) (hS : ∀ a, S a → S' a) (hO : ∀ a i, o = .r i → isOwn ρ[i]? → σ[i]? = some (some (.ref a)) → S' a) (g : o.get ρ K) : ∃ d, K d ∧ Rep W S' H v d := by
  have mono : ∀ d, Rep W S H v d → Rep W S' H v d := fun d q => Rep.mono (fun a ha => ⟨hS a ha, rfl⟩) d v q
  cases o with
  | v d => exact ⟨d, g, mono d h⟩
  | r i =>
    have h' : σ[i]? = some (some v) := h
    have g' : (match ρ[i]? with
      | some (.sh d) => K d
      | some (.ol l) => K (.lst l)
      | some (.od l) => K (.dct l)
      | _ => False) := g
    split at g'
    · rename_i d e
      obtain ⟨u, h1, h2⟩ := r.sh i d e
      rw [h'] at h1; cases h1
      exact ⟨d, g', mono d h2⟩
    · rename_i l e
      obtain ⟨a, xs, h1, h2, h3, h4⟩ := r.ol i l e
      rw [h'] at h1; cases h1
      exact ⟨.lst l, g', .lst (hO a i rfl (by rw [e]; trivial) h') h2 (Reps.mono (fun a ha => ⟨hS a ha, rfl⟩) _ _ h4)⟩
    · rename_i l e
      exact (r.od i l e).elim
    · exact g'.elim
theorem RepOs.getS : ∀ {vs : List V} {os : List Opd} {K : List D → Prop}, R W Z S ρ σ H → RepOs W S σ H vs os → (∀ a, S a → S' a) → (∀ a, OwnA ρ σ os a → S' a) → Wg.gets ρ os K → ∃ ds, K ds ∧ Reps W S' H vs ds
  | _, _, K, _, .nil, _, _, g => ⟨[], g, .nil⟩
  | _, _, K, r, .cons (o := o) (os := os) h t, hS, hO, g => by
    unfold Wg.gets at g
    obtain ⟨d, g1, rd⟩ := RepO.getS r h hS (fun a i e h1 h2 => hO a ⟨i, by rw [e]; exact List.mem_cons_self, h1, h2⟩) g
    obtain ⟨ds, g2, rs⟩ := RepOs.getS (K := fun ds => K (d :: ds)) r t hS (fun a ⟨i, e, h1, h2⟩ => hO a ⟨i, List.mem_cons_of_mem _ e, h1, h2⟩) g1
    exact ⟨d :: ds, g2, .cons rd rs⟩
mutual
/-- a value made of tuples alone lies in tuples alone -/
theorem Rep.imm (k : ∀ a o u, S a → H a = some (.frz o u) → S' a) : ∀ (d : D) (v : V), d.imm = true → Rep W S H v d → Rep W S' H v d
  | .non, _, _, h => by cases h; exact .non
  | .bl _, _, _, h => by cases h; exact .bl _
  | .int _, _, _, h => by cases h; exact .int _
  | .str _, _, _, h => by cases h; exact .str _
  | .tup ds, _, i, h => by
    have i : D.imms ds = true := i
    cases h with
    | tup hs ha hd hr => exact .tup (k _ _ _ hs ha) ha hd (Reps.imm k ds _ i hr)
    | ktup hk hr => exact .ktup hk (Reps.imm k ds _ i hr)
  | .lst ds, _, i, _ => by cases (show false = true from i)
  | .dct _, _, _, h => by cases h
  | .fn _ _, _, _, h => by cases h with | fn e => exact .fn e
  | .pool, _, i, _ => by cases (show false = true from i)
  | .scr _ _, _, i, _ => by cases (show false = true from i)
theorem Reps.imm (k : ∀ a o u, S a → H a = some (.frz o u) → S' a) : ∀ (ds : List D) (vs : List V), D.imms ds = true → Reps W S H vs ds → Reps W S' H vs ds
  | [], _, _, h => by cases h; exact .nil
  | d :: ds, _, i, h => by
    have i : (D.imm d && D.imms ds) = true := i
    simp only [Bool.and_eq_true] at i
    cases h with
    | cons h1 h2 => exact .cons (Rep.imm k d _ i.1 h1) (Reps.imm k ds _ i.2 h2)
end
theorem freeze_noop {i : Nat} (h : ¬ isOwn ρ[i]?) : Wg.freeze ρ i = ρ := by
  unfold Wg.freeze
  split
  · rename_i l e; rw [e] at h; exact (h trivial).elim
  · rename_i l e; rw [e] at h; exact (h trivial).elim
  · rfl
/-- operands' lists are known elsewhere from now on -/
theorem R.freezes : ∀ (os : List Opd) {S : AS} {ρ : Wg.Env}, R W Z S ρ σ H → ∃ S2, Ext Z S H S2 H ∧ R W Z S2 (Wg.freezes ρ os) σ H ∧ ∀ a, OwnA ρ σ os a → S2 a
  | [], S, ρ, r => ⟨S, .refl, r, fun a ⟨i, h, _⟩ => nomatch h⟩
  | .v d :: os, S, ρ, r => by
    obtain ⟨S2, e, r2, h⟩ := R.freezes os r
    exact ⟨S2, e, r2, fun a ⟨i, h1, h2, h3⟩ => h a ⟨i, by simpa using h1, h2, h3⟩⟩
  | .r i :: os, S, ρ, r => by
    by_cases ho : isOwn ρ[i]?
    · unfold isOwn at ho
      split at ho
      · rename_i l el
        obtain ⟨a, h1, e1, r1, _⟩ := r.freeze el
        have ef : Wg.freeze ρ i = ρ.set i (.sh (.lst l)) := by unfold Wg.freeze; rw [el]
        obtain ⟨S2, e2, r2, h⟩ := R.freezes os r1
        refine ⟨S2, e1.trans e2, ?_, fun b ⟨j, hj, oj, sj⟩ => ?_⟩
        · unfold Wg.freezes
          rw [ef]
          exact r2
        · by_cases eij : j = i
          · subst eij
            rw [h1] at sj
            cases sj
            exact (e2.s _ (.inr rfl)).1
          · refine h b ⟨j, ?_, ?_, sj⟩
            · rcases List.mem_cons.mp hj with q | q
              · cases q; exact (eij rfl).elim
              · exact q
            · rw [List.getElem?_set_ne (Ne.symm eij)]; exact oj
      · rename_i l el
        exact (r.od i l el).elim
      · exact ho.elim
    · obtain ⟨S2, e2, r2, h⟩ := R.freezes os r
      refine ⟨S2, e2, ?_, fun b ⟨j, hj, oj, sj⟩ => ?_⟩
      · unfold Wg.freezes
        rw [freeze_noop ho]
        exact r2
      · refine h b ⟨j, ?_, oj, sj⟩
        rcases List.mem_cons.mp hj with q | q
        · cases q; exact (ho oj).elim
        · exact q
/-- behind a call: new addresses n are known -/
theorem R.after {n : AS} (r : R W Z S ρ σ H) (hf : ∀ a, H a ≠ none → W.P ≠ some a → H' a = H a) (hp : ∀ p, W.P = some p → Pool0 W H' p) (hn : ∀ a, n a → H a = none ∧ H' a ≠ none) :
    Ext Z S H (fun a => S a ∨ n a) H' ∧ R W Z (fun a => S a ∨ n a) ρ σ H' := by
  have kS : ∀ a, S a → H' a = H a := fun a h => hf a (r.trk a (.inl h)) fun e => (r.pool a e).1 h
  have kZ : ∀ a, Z a → H' a = H a := fun a h => hf a (r.trk a (.inr h)) fun e => (r.pool a e).2.1 h
  have ks : ∀ a, S a → (S a ∨ n a) ∧ H' a = H a := fun a h => ⟨.inl h, kS a h⟩
  refine ⟨⟨ks, kZ⟩, r.len, r.keep, fun i d e => ?_, fun i l e => ?_, r.od, r.dis, fun a h => ?_, fun a h => ?_, fun p e => ?_⟩
  · obtain ⟨v, h1, h2⟩ := r.sh i d e
    exact ⟨v, h1, Rep.mono ks _ _ h2⟩
  · obtain ⟨a, xs, h1, h2, h3, h4⟩ := r.ol i l e
    have ta : H a ≠ none := by rw [h2]; simp
    refine ⟨a, xs, h1, (hf a ta h3.2.2).trans h2, ⟨fun q => ?_, h3.2⟩, Reps.mono ks _ _ h4⟩
    rcases q with q | q
    · exact h3.1 q
    · exact ta (hn a q).1
  · rcases h with (h | h) | h
    · rw [kS a h]; exact r.trk a (.inl h)
    · exact (hn a h).2
    · rw [kZ a h]; exact r.trk a (.inr h)
  · rcases h with h | h
    · exact r.dz a h
    · exact fun z => r.trk a (.inr z) (hn a h).1
  · obtain ⟨h1, h2, h3, h4⟩ := r.pool p e
    refine ⟨fun q => ?_, h2, .inl h3, hp p e⟩
    rcases q with q | q
    · exact h1 q
    · obtain ⟨ns, i, x, c, z, e1, _⟩ := h4
      rw [(hn p q).1] at e1; cases e1
end
section
variable {T : Tab} {X : Cx} {W : Wd} {Φ : Wg.Ctx} {N : List Str} {ex l r m : Expr} {pos np : Pos} {a b c : Ex} {es : Exs} {xs : List Expr} {x : Str}
theorem plAll_star {env : PySem.Env} : ∀ {xs : List Expr}, xs.all plB = true → ∀ pos, (backTo pos (starEach xs env)).all (fun x => !x.1) = true ∧ (backTo pos (starEach xs env)).any (·.1) = false
  | [], _, _ => ⟨rfl, rfl⟩
  | e :: es, h, pos => by
    simp only [List.all_cons, Bool.and_eq_true] at h
    rw [star_pl h.1]
    obtain ⟨h1, h2⟩ := plAll_star (env := env) h.2 pos
    constructor
    · show (!false && (backTo pos (starEach es env)).all (fun x => !x.1)) = true
      rw [h1]; rfl
    · show (false || (backTo pos (starEach es env)).any (·.1)) = false
      rw [h2]; rfl
/-- what a call reaches -/
theorem call_imp {f : Nat} : ∀ σ H Q, tX W Φ (.call f es) σ H Q → tCall (SpF W Φ.F f) [] (fun _ _ _ => False) (tOs W Φ es) σ H Q := fun σ H Q ⟨Z, S, ρ, Qs, r, hw, k⟩ => by
  unfold Wg.wX at hw
  refine ⟨Z, S, ρ, _, r, hw, fun vs H1 S1 ρ1 os e1 r1 rs _ q1 => ?_⟩
  show SpF W Φ.F f (vs ++ []) H1 Q _
  rw [List.append_nil]
  obtain ⟨ds, q2, rd⟩ := RepOs.getS (S' := fun a => S1 a ∨ OwnA ρ1 σ os a) r1 rs (fun a h => .inl h) (fun a h => .inr h) q1
  have ownTrk : ∀ a, OwnA ρ1 σ os a → H1 a ≠ none ∧ Own W Z S1 a := fun a ⟨i, _, h1, h2⟩ => r1.own_trk h1 h2
  have ownLst : ∀ a, OwnA ρ1 σ os a → ∃ xs, H1 a = some (.lst xs) := fun a ⟨i, _, h1, h2⟩ => by
    unfold isOwn at h1
    split at h1
    · rename_i l e
      obtain ⟨b, ys, g1, g2, _⟩ := r1.ol i l e
      rw [h2] at g1; cases g1
      exact ⟨ys, g2⟩
    · rename_i l e
      exact (r1.od i l e).elim
    · exact h1.elim
  refine ⟨fun a => S1 a ∨ OwnA ρ1 σ os a, ds, _, fun a h => ?_, fun p hp => ?_, rd, q2, fun v H' S' d hf hp hs rv q => ?_⟩
  · rcases h with h | h
    · exact ⟨r1.trk a (.inl h), fun e => (r1.pool a e).1 h⟩
    · exact ⟨(ownTrk a h).1, (ownTrk a h).2.2.2⟩
  · obtain ⟨_, _, h3, h4⟩ := r1.pool p hp
    exact ⟨.inl h3, h4⟩
  · have hn : ∀ a, (S' a ∧ H1 a = none) → H1 a = none ∧ H' a ≠ none := fun a h => ⟨h.2, (hs a h.1).2⟩
    unfold Wg.behind at q
    split at q
    · rename_i im
      obtain ⟨e2, r2⟩ := r1.after (n := fun a => S' a ∧ H1 a = none) hf hp hn
      refine k v H' _ ρ1 (.sh d) (e1.trans e2) r2 (Rep.imm (fun a o u ha hH => ?_) d v im rv) q
      rcases (hs a ha).1 with (h | h) | h
      · exact .inl h
      · obtain ⟨xs, hx⟩ := ownLst a h
        have := hf a (ownTrk a h).1 (ownTrk a h).2.2.2
        rw [hx, hH] at this; cases this
      · exact .inr ⟨ha, h⟩
    · obtain ⟨S2, e2, r2, ho⟩ := R.freezes os r1
      obtain ⟨e3, r3⟩ := r2.after (n := fun a => S' a ∧ H1 a = none) hf hp hn
      refine k v H' _ _ (.sh d) (e1.trans (e2.trans e3)) r3 (Rep.mono (fun a ha => ⟨?_, rfl⟩) d v rv) q
      rcases (hs a ha).1 with (h | h) | h
      · exact .inl (e2.s a h).1
      · exact .inl (ho a h)
      · exact .inr ⟨ha, h⟩
theorem snd_call {f : Nat} (g : Good T W Φ N X) (hf : T.fn f = some x) (hg : Gl X x) (hd : (x == ("__debug__" : Str)) = false) (h : PA X xs (tOs W Φ es)) (hp : xs.all plB = true) (hx : xs = [] → es = .n) :
    PE X (.Call (.Name x np) xs [] pos) (tX W Φ (.call f es)) := by
  obtain ⟨a, fd, ps, k, hm, hk, hb, hr, F⟩ := g.fn f x hf
  have hpass : Passes CX0 X (fun _ _ _ => False) := fun _ _ _ _ _ _ _ h => h.elim
  cases xs with
  | nil =>
    have e0 := hx rfl
    subst e0
    refine PE.imp (pe_call0 F hr hg hm hk hb .nil hpass hd) fun σ H Q q => ?_
    obtain ⟨Z, S, ρ, Qs, r, hw, k⟩ := call_imp σ H Q q
    exact k [] H S ρ [] .refl r .nil rfl hw
  | cons e es' =>
    simp only [List.all_cons, Bool.and_eq_true] at hp
    exact PE.imp (pe_call F hr hg hm hk hb .nil hpass h hd (star_pl hp.1) (plAll_star hp.2 pos).2) call_imp
/-! ### built-in functions -/
theorem cr_of (g : Good T W Φ N X) : ∀ (b : Blt) (x : Str), bltName b = some x → (∃ id, bootBuiltins x = some (.builtin id) ∧ CallR X (.builtin id) (rBlt W b)) ∨ (∃ Ty, bootBuiltins x = some (.type Ty) ∧ CallR X (.type Ty) (rBlt W b)) := by
  intro b x h
  cases b <;> first | (cases h; done) | cases h
  · exact .inl ⟨"len", by kernel_rfl, cr_len g.hK⟩
  · exact .inr ⟨"tuple", by kernel_rfl, cr_tuple g.hK⟩
  · exact .inr ⟨"list", by kernel_rfl, cr_list g.hK⟩
  · exact .inl ⟨"sorted", by kernel_rfl, cr_sortedB g.hK g.hu⟩
  · exact .inl ⟨"min", by kernel_rfl, cr_minB g.hK g.calm g.hu⟩
  · exact .inl ⟨"max", by kernel_rfl, cr_maxB g.hK g.calm g.hu⟩
  · exact .inl ⟨"sum", by kernel_rfl, cr_sumB g.hK g.calm⟩
  · exact .inl ⟨"abs", by kernel_rfl, cr_abs⟩
  · exact .inr ⟨"int", by kernel_rfl, cr_int⟩
  · exact .inl ⟨"all", by kernel_rfl, cr_allB g.hK g.calm⟩
  · exact .inl ⟨"any", by kernel_rfl, cr_anyB g.hK g.calm⟩
theorem blt_imp {b : Blt} : ∀ σ H Q, tX W Φ (.blt b es) σ H Q → tCB (rBlt W b) (tOs W Φ es) σ H Q := fun σ H Q ⟨Z, S, ρ, Qs, r, hw, k⟩ => by
  unfold Wg.wX at hw
  refine ⟨Z, S, ρ, _, r, hw, fun vs H1 S1 ρ1 os e1 r1 rs _ q1 => ?_⟩
  obtain ⟨ds, q2, rd⟩ := RepOs.get r1 rs q1
  exact ⟨Z, S1, ρ1, σ, ds, _, r1, rd, q2, fun v H' S' s e2 r2 rv q => k v H' S' ρ1 s (e1.trans e2) r2 rv q⟩
theorem snd_blt {b : Blt} {e : Expr} (g : Good T W Φ N X) (hf : bltName b = some x) (hg : Gl X x) (hd : (x == ("__debug__" : Str)) = false) (hn : x ≠ "__name__") (h : PA X (e :: xs) (tOs W Φ es)) (hp : (e :: xs).all plB = true) :
    PE X (.Call (.Name x np) (e :: xs) [] pos) (tX W Φ (.blt b es)) := by
  simp only [List.all_cons, Bool.and_eq_true] at hp
  rcases cr_of g b x hf with ⟨id, hv, hc⟩ | ⟨id, hv, hc⟩
  · exact PE.imp (pe_callB hc hg (g.blt b x hf) hv h hn hd (star_pl hp.1) (plAll_star hp.2 pos).2) blt_imp
  · exact PE.imp (pe_callTy hc hg (g.blt b x hf) hv h hn hd (star_pl hp.1) (plAll_star hp.2 pos).2) blt_imp
/-! ### methods -/
theorem base_pl {e : Expr} {nm : Str} {env : PySem.Env} (h : notCall e = true) : attributeBase e nm env (eval e env) = eval e env := by
  cases e <;> first | rfl | cases h
theorem few_pl {env : PySem.Env} {cp : Pos} {e : Expr} (hp : (e :: xs).all plB = true) (hl : xs.length < 20) : ((backTo cp (starEach (e :: xs) env)).all (fun x => !x.1) && (backToKw cp (keywordEach [] env)).all (fun x => x.1.isSome)
      && decide ((e :: xs).length + ([] : List Keyword).length + (if ([] : List Keyword).isEmpty then 0 else 1) < 30)) = true := by
  rw [(plAll_star hp cp).1]
  have : (e :: xs).length + ([] : List Keyword).length + (if ([] : List Keyword).isEmpty then 0 else 1) < 30 := by
    show (xs.length + 1) + 0 + 0 < 30
    omega
  rw [decide_eq_true this]
  rfl
theorem RepT.kind1 {S : AS} {H : Hp} {v : V} {d : D} (h : Wg.kindD d = 1) (r : RepT W S H v d) : ∃ l, d = .lst l := by
  cases d <;> first | exact ⟨_, rfl⟩ | cases h
theorem kind1 {d : D} (h : Wg.kindD d = 1) : ∃ l, d = .lst l := by
  cases d <;> first | exact ⟨_, rfl⟩ | cases h
theorem kind2 {d : D} (h : Wg.kindD d = 2) : ∃ l, d = .tup l := by
  cases d <;> first | exact ⟨_, rfl⟩ | cases h
theorem kind12 {d : D} (h : Wg.kindD d ≠ 0) : Wg.kindD d = 1 ∨ Wg.kindD d = 2 := by
  cases d <;> first | exact .inl rfl | exact .inr rfl | exact (h rfl).elim
/-- a method of a list or a tuple that changes nothing -/
theorem mth_gen {mt : Mth} {o : Ex} {nm : Str} {ap cp : Pos} {idL idT : String} {e : Expr} (hK : W.K = X.K) (hw : ∀ ρ Q, Wg.wX Φ (.mth mt o es) ρ Q → Wg.opd o (Wg.wX Φ o ρ) ρ fun x ρ1 => x.get ρ1 fun x0 => Wg.kindD x0 ≠ 0 ∧ Wg.wOs Φ es ρ1 fun os ρ2 => x.get ρ2 fun x' => Wg.kindD x' = Wg.kindD x0 ∧ Wg.gets ρ2 os fun ds => Wg.mthV mt x' ds fun s => Q s ρ2)
    (slotL : Slot "list" nm idL) (slotT : Slot "tuple" nm idT) (tyL : typeOf (.builtin idL) = pure (.type "method_descriptor")) (tyT : typeOf (.builtin idT) = pure (.type "method_descriptor"))
    (mL : MtR X idL (rMthL W mt)) (mT : MtR X idT (rMthT W mt)) (ho : PE X l (tO W Φ o)) (ha : PA X (e :: xs) (tOs W Φ es)) (hp : (e :: xs).all plB = true) (hl : xs.length < 20) (hc : notCall l = true) (hline : (ap.endLine == cp.line) = true) :
    PE X (.Call (.Attribute l nm ap) (e :: xs) [] cp) (tX W Φ (.mth mt o es)) := by
  refine ⟨fun pins s σ H Q I ⟨Z, S, ρ, Qs, r, hx, k⟩ => ?_⟩
  have hs := star_pl (es := xs) (env := X.env) (by simp only [List.all_cons, Bool.and_eq_true] at hp; exact hp.1)
  have hpl : (backTo cp (starEach xs X.env)).any (·.1) = false := by
    simp only [List.all_cons, Bool.and_eq_true] at hp
    exact (plAll_star hp.2 cp).2
  refine wpAny_Call_method_late (base_pl hc) (few_pl hp hl) hline rfl (thn (ho.run pins s σ H (fun x H1 => ∃ S1 ρ1 ox x0, Ext Z S H S1 H1 ∧ R W Z S1 ρ1 σ H1 ∧ RepO W S1 σ H1 x ox ∧ RepT W S1 H1 x x0 ∧ Wg.kindD x0 ≠ 0 ∧ Wg.wOs Φ es ρ1 fun os ρ2 => ox.get ρ2 fun x' => Wg.kindD x' = Wg.kindD x0 ∧ Wg.gets ρ2 os fun ds => Wg.mthV mt x' ds fun s => Qs s ρ2) I ⟨Z, S, ρ, _, r, hw ρ Qs hx, fun x H1 S1 ρ1 ox e1 r1 rx q1 => ?_⟩) fun v s1 ⟨x, H1, I1, r1, q1⟩ => ?_)
  · obtain ⟨x0, ⟨q2, q3⟩, rx0⟩ := RepO.get r1 rx q1
    exact ⟨S1, ρ1, ox, x0, e1, r1, rx, rx0, q2, q3⟩
  · obtain ⟨S1, ρ1, ox, x0, e1, rr, rx, rx0, k0, q⟩ := q1
    have run : ∀ (id : String), (∀ H2 S2 ρ2 vs Qd x', R W Z S2 ρ2 σ H2 → RepT W S2 H2 x x' → Wg.kindD x' = Wg.kindD x0 → (∃ ds, RepTs W S2 H2 vs ds ∧ Wg.mthV mt x' ds Qd) → ∀ s2 us, Inv X pins σ H2 s2 → Vals vs us → Res W Z S2 ρ2 σ H2 Q Qd → wpAny (model X.prog X.w) X.A (call (.builtin id) (v :: us)) (EP X pins σ Q) X.xe s2) →
        wpAny (model X.prog X.w) X.A (callWith cp (.builtin id) [v] (backTo cp (starEach (e :: xs) X.env)) []) (EP X pins σ Q) X.xe s1 := fun id step => by
      have hA := ha.run cp pins s1 σ H1 (fun vs H2 => ∃ S2 ρ2 x' Qd, R W Z S2 ρ2 σ H2 ∧ RepT W S2 H2 x x' ∧ Wg.kindD x' = Wg.kindD x0 ∧ (∃ ds, RepTs W S2 H2 vs ds ∧ Wg.mthV mt x' ds Qd) ∧ Res W Z S2 ρ2 σ H2 Q Qd) I1 ⟨Z, S1, ρ1, _, rr, q, fun vs H2 S2 ρ2 os e2 r2 rs _ q2 => by
        obtain ⟨x', ⟨kx, q3⟩, rx'⟩ := RepO.get r2 (RepO.ext e2 rx) q2
        obtain ⟨ds, q4, rd⟩ := RepOs.get r2 rs q3
        exact ⟨S2, ρ2, x', _, r2, rx', kx, ⟨ds, rd, q4⟩, fun v H' S' s e3 r3 rv q => k v H' S' ρ2 s ((e1.trans e2).trans e3) r3 rv q⟩⟩
      rw [hs] at hA ⊢
      refine Calls.callWith_builtin (by show (false || (backTo cp (starEach xs X.env)).any (·.1)) = false; rw [hpl] <;> rfl) (Calls.evalArgs_plain ?_)
      exact thn hA fun us s2 ⟨vs, H2, I2, r2, S2, ρ2, x', Qd, g1, g2, g3, g4, g5⟩ => step H2 S2 ρ2 vs Qd x' g1 g2 g3 g4 s2 us I2 r2 g5
    rcases kind12 k0 with k1 | k2
    · obtain ⟨l0, rfl⟩ := kind1 k1
      obtain ⟨p, ys, rfl, hp', _⟩ := rx0.lst
      obtain ⟨h1, h2⟩ := tyV_is (T := "list") I1 r1 (show tyV X.K "list" (.ref p) H1 from .inl ⟨rfl, ys, SqL.of hp'⟩)
      refine ⟨"list", idL, PySem.F.plainAttrs_list, slotL, tyL, h1, h2, run idL fun H2 S2 ρ2 vs Qd x' g1 g2 g3 g4 s2 us I2 r2 g5 => ?_⟩
      obtain ⟨l', rfl⟩ := kind1 (g3.trans k1)
      obtain ⟨ds, g6, g7⟩ := g4
      exact mL pins s2 σ H2 _ vs v us Q I2 r1 r2 ⟨Z, S2, ρ2, σ, l', ds, Qd, g1, g2, g6, g7, g5⟩
    · obtain ⟨l0, rfl⟩ := kind2 k2
      have rx0 : Rep W S1 H1 x (.tup l0) := rx0
      have there : s1.TypeIs v "tuple" ∧ ∀ a, v = .ref a → ∃ ob, s1.heap.get? a = some ob ∧ ob.dict = none := by
        cases rx0 with
        | tup hs' hH hd' hr =>
          cases r1
          obtain ⟨he, _, its, _, ob, e2, c2, _⟩ := I1.hok _ _ hH
          rw [he] at e2; cases e2
          exact ⟨⟨_, he, c2⟩, fun a e => by cases e; exact ⟨_, he, hd'⟩⟩
        | ktup hk hr =>
          cases r1
          obtain ⟨ob, its, n, h1, h2, h3, _⟩ := hk
          have he := I1.kIn _ ob (hK ▸ h1)
          exact ⟨⟨_, he, h2⟩, fun a e => by cases e; exact ⟨_, he, h3⟩⟩
      refine ⟨"tuple", idT, PySem.F.plainAttrs_tuple, slotT, tyT, there.1, there.2, run idT fun H2 S2 ρ2 vs Qd x' g1 g2 g3 g4 s2 us I2 r2 g5 => ?_⟩
      obtain ⟨l', rfl⟩ := kind2 (g3.trans k2)
      obtain ⟨ds, g6, g7⟩ := g4
      exact mT pins s2 σ H2 _ vs v us Q I2 r1 r2 ⟨Z, S2, ρ2, σ, l', ds, Qd, g1, g2, g6, g7, g5⟩
theorem snd_index {o : Ex} {e : Expr} {ap cp : Pos} (g : Good T W Φ N X) (ho : PE X l (tO W Φ o)) (ha : PA X (e :: xs) (tOs W Φ es)) (hp : (e :: xs).all plB = true) (hl : xs.length < 20) (hc : notCall l = true) (hline : (ap.endLine == cp.line) = true) :
    PE X (.Call (.Attribute l "index" ap) (e :: xs) [] cp) (tX W Φ (.mth .index o es)) :=
  mth_gen g.hK (fun _ _ h => h) PySem.F.slot_list_index PySem.F.slot_tuple_index PySem.F.type_list_index PySem.F.type_tuple_index (mt_indexL g.hK g.hu) (mt_indexT g.hK g.hu) ho ha hp hl hc hline
theorem snd_count {o : Ex} {e : Expr} {ap cp : Pos} (g : Good T W Φ N X) (ho : PE X l (tO W Φ o)) (ha : PA X (e :: xs) (tOs W Φ es)) (hp : (e :: xs).all plB = true) (hl : xs.length < 20) (hc : notCall l = true) (hline : (ap.endLine == cp.line) = true) :
    PE X (.Call (.Attribute l "count" ap) (e :: xs) [] cp) (tX W Φ (.mth .count o es)) :=
  mth_gen g.hK (fun _ _ h => h) PySem.F.slot_list_count PySem.F.slot_tuple_count PySem.F.type_list_count PySem.F.type_tuple_count (mt_countL g.hK g.hu) (mt_countT g.hK g.hu) ho ha hp hl hc hline
/-- a list of one's own is written -/
theorem R.put {Z S : AS} {ρ : Wg.Env} {σ : L2.St} {H : Hp} {k : Nat} {l : List D} (r : R W Z S ρ σ H) (e : ρ[k]? = some (.ol l)) : ∃ a xs, σ[k]? = some (some (.ref a)) ∧ H a = some (.lst xs) ∧ Reps W S H xs l ∧
    ∀ xs' l', Reps W S H xs' l' → Ext Z S H S (L2.upd H a (.lst xs')) ∧ R W Z S (ρ.set k (.ol l')) σ (L2.upd H a (.lst xs')) := by
  obtain ⟨a, xs, h1, h2, h3, h4⟩ := r.ol k l e
  have hk : k < ρ.length := (List.getElem?_eq_some_iff.mp e).1
  refine ⟨a, xs, h1, h2, h4, fun xs' l' h5 => ?_⟩
  have ks : ∀ b, S b → S b ∧ (L2.upd H a (.lst xs')) b = H b := fun b h => ⟨h, upd_ne (fun e => h3.1 (e ▸ h))⟩
  have own : ∀ j : Nat, isOwn (ρ.set k (Slot.ol l'))[j]? → isOwn ρ[j]? := fun j o => by
    by_cases q : j = k
    · subst q; rw [e]; trivial
    · rw [List.getElem?_set_ne (Ne.symm q)] at o; exact o
  refine ⟨Ext.upd h3 _, ⟨by rw [List.length_set]; exact r.len, r.keep, fun j d q => ?_, fun j m q => ?_, fun j m q => ?_, fun j i b o1 o2 e1 e2 => r.dis j i b (own j o1) (own i o2) e1 e2, fun b h => ?_, r.dz, fun p hp => ?_⟩⟩
  · by_cases c : j = k
    · subst c; rw [List.getElem?_set_self hk] at q; cases q
    · rw [List.getElem?_set_ne (Ne.symm c)] at q
      obtain ⟨w, g1, g2⟩ := r.sh j d q
      exact ⟨w, g1, Rep.mono ks _ _ g2⟩
  · by_cases c : j = k
    · subst c
      rw [List.getElem?_set_self hk] at q
      cases q
      exact ⟨a, xs', h1, upd_same, h3, Reps.mono ks _ _ h5⟩
    · rw [List.getElem?_set_ne (Ne.symm c)] at q
      obtain ⟨b, ys, g1, g2, g3, g4⟩ := r.ol j m q
      have ne : b ≠ a := fun z => c (r.dis j k a (by rw [q]; trivial) (by rw [e]; trivial) (z ▸ g1) h1)
      exact ⟨b, ys, g1, (upd_ne ne).trans g2, g3, Reps.mono ks _ _ g4⟩
  · by_cases c : j = k
    · subst c; rw [List.getElem?_set_self hk] at q; cases q
    · rw [List.getElem?_set_ne (Ne.symm c)] at q
      exact r.od j m q
  · by_cases c : b = a
    · rw [c, upd_same]; simp
    · rw [upd_ne c]; exact r.trk b h
  · obtain ⟨g1, g2, g3, ns, i, x, c, z, e1, e3, e4⟩ := r.pool p hp
    have n1 : p ≠ a := fun q => h3.2.2 (q ▸ hp)
    exact ⟨g1, g2, g3, ns, i, x, c, z, (upd_ne n1).trans e1, (ks _ g3).2.trans e3, e4⟩
theorem R.ownL {Z S : AS} {ρ : Wg.Env} {σ : L2.St} {H : Hp} {k : Nat} (r : R W Z S ρ σ H) (h : Wg.ownL ρ k) : ∃ a xs, σ[k]? = some (some (.ref a)) ∧ H a = some (.lst xs) := by
  unfold Wg.ownL at h
  split at h
  · rename_i l e
    obtain ⟨a, xs, h1, h2, _⟩ := r.ol k l e
    exact ⟨a, xs, h1, h2⟩
  · exact h.elim
theorem snd_append {k : Nat} {e : Expr} {ap cp : Pos} (hv : PE X l (tVar k)) (ha : PE X e (tX W Φ a)) (hp : plB e = true) (hc : notCall l = true) (hline : (ap.endLine == cp.line) = true) :
    PE X (.Call (.Attribute l "append" ap) [e] [] cp) (tX W Φ (.mth .append (.var k) (.c a .n))) := by
  have pl : ([e] : List Expr).all plB = true := by simp [hp]
  refine PE.imp (pe_bm PySem.F.plainAttrs_list PySem.F.slot_list_append PySem.F.type_list_append mt_append hv (pa_cons ha pa_nil (star_pl hp)) (base_pl hc) (few_pl pl (by decide)) hline (star_pl hp) rfl) fun σ H Q ⟨Z, S, ρ, Qs, r, hw, k⟩ => ?_
  have hw : Wg.ownL ρ _ ∧ Wg.wX Φ a ρ fun s ρ1 => Wg.appK ρ1 _ s.val Qs := hw
  obtain ⟨b, ys, h1, h2⟩ := r.ownL hw.1
  refine ⟨_, h1, .inl ⟨rfl, ys, SqL.of h2⟩, Z, S, ρ, _, r, hw.2, fun v H1 S1 ρ1 s e1 r1 rv q => ?_⟩
  obtain ⟨S2, e2, r2, rv2⟩ := fin_val r1 rv
  unfold Wg.appK at q
  split at q
  · rename_i l el
    obtain ⟨b', xs', h3, h4, h5, h6⟩ := r2.put el
    rw [h1] at h3; cases h3
    obtain ⟨e3, r3⟩ := h6 (xs' ++ [v]) (l ++ [s.val]) (h5.snoc rv2)
    refine ⟨b, xs', v, rfl, rfl, h4, ?_, k .non _ S2 _ (.sh .non) (e1.trans (e2.trans e3)) r3 .non q.2⟩
    rw [h5.length]
    have := LB_line
    omega
  · exact q.elim
theorem snd_extend {k : Nat} {e : Expr} {ap cp : Pos} (hv : PE X l (tVar k)) (ha : PE X e (tX W Φ a)) (hp : plB e = true) (hc : notCall l = true) (hline : (ap.endLine == cp.line) = true) :
    PE X (.Call (.Attribute l "extend" ap) [e] [] cp) (tX W Φ (.mth .extend (.var k) (.c a .n))) := by
  have pl : ([e] : List Expr).all plB = true := by simp [hp]
  refine PE.imp (pe_bm PySem.F.plainAttrs_list PySem.F.slot_list_extend PySem.F.type_list_extend mt_extend hv (pa_cons ha pa_nil (star_pl hp)) (base_pl hc) (few_pl pl (by decide)) hline (star_pl hp) rfl) fun σ H Q ⟨Z, S, ρ, Qs, r, hw, k⟩ => ?_
  have hw : Wg.ownL ρ _ ∧ Wg.wX Φ a ρ fun s ρ1 => Wg.extK ρ1 _ s.val Qs := hw
  obtain ⟨b, ys, h1, h2⟩ := r.ownL hw.1
  refine ⟨_, h1, .inl ⟨rfl, ys, SqL.of h2⟩, Z, S, ρ, _, r, hw.2, fun v H1 S1 ρ1 s e1 r1 rv q => ?_⟩
  obtain ⟨S2, e2, r2, rv2⟩ := fin_val r1 rv
  unfold Wg.extK at q
  split at q
  · rename_i l m el es
    obtain ⟨b', xs', h3, h4, h5, h6⟩ := r2.put el
    rw [h1] at h3; cases h3
    rw [es] at rv2
    cases rv2 with
    | lst hs ha' hr =>
      rename_i c zs
      obtain ⟨e3, r3⟩ := h6 (xs' ++ zs) (l ++ m) (h5.append hr)
      refine ⟨b, c, xs', zs, rfl, rfl, h4, ha', ?_, k .non _ S2 _ (.sh .non) (e1.trans (e2.trans e3)) r3 .non q.2⟩
      rw [h5.length, hr.length]
      have := LB_line
      omega
  · exact q.elim
theorem snd_pop {k : Nat} {ap cp : Pos} (hv : PE X l (tVar k)) (hc : notCall l = true) (hline : (ap.endLine == cp.line) = true) :
    PE X (.Call (.Attribute l "pop" ap) [] [] cp) (tX W Φ (.mth .pop (.var k) .n)) := by
  refine PE.imp (pe_bm0 PySem.F.plainAttrs_list PySem.F.slot_list_pop PySem.F.type_list_pop mt_pop hv (base_pl hc) hline) fun σ H Q ⟨Z, S, ρ, Qs, r, hw, k⟩ => ?_
  have hw : Wg.popK ρ _ Qs := hw
  unfold Wg.popK at hw
  split at hw
  · rename_i l el
    obtain ⟨b, xs, h3, h4, h5, h6⟩ := r.put el
    unfold Wg.popL at hw
    split at hw
    · rename_i d ed
      obtain ⟨v, hv, rd⟩ := h5.get ed
      obtain ⟨e3, r3⟩ := h6 xs.dropLast l.dropLast h5.dropLast
      exact ⟨_, h3, .inl ⟨rfl, xs, SqL.of h4⟩, b, xs, v, rfl, rfl, h4, by rw [h5.length]; exact hv, k v _ S _ (.sh d) e3 r3 (Rep.mono e3.s _ _ rd) hw⟩
    · exact hw.elim
  · exact hw.elim
end
end WgS
set_option Elab.async false
set_option linter.all false
set_option maxRecDepth 100000
set_option maxHeartbeats 1000000
/-! WgS: targets, what is walked, comprehensions. -/
namespace WgS
open PySem PySem.Spec PyProof.Rows L2
open Wg (D Slot Opd Ex Exs Tg Tgs Kvs Sts BOp COp Blt Mth LB)
open RZ (ItzT pi_zipA)
/-- what a target may take: a value; or, if it takes it apart, a tuple that nobody knows -/
def RepG (W : Wd) (Z S : AS) (ρ : Wg.Env) (σ : L2.St) (H : Hp) (v : V) (s : Slot) (t : Tg) : Prop :=
  RepS W Z S ρ σ H v s ∨ ((∃ ts, t = .tp ts) ∧ ∃ a xs l, s = .sh (.tup l) ∧ v = .ref a ∧ SqT W.K H a xs ∧ Reps W S H xs l)
def tT (W : Wd) (Φ : Wg.Ctx) (t : Tg) : TG := fun v σ H Q => ∃ Z S ρ s, ∃ Qt : Wg.Env → Prop, R W Z S ρ σ H ∧ RepG W Z S ρ σ H v s t ∧ Wg.wT Φ t s ρ Qt ∧
  ∀ σ' H' S' ρ', Ext Z S H S' H' → R W Z S' ρ' σ' H' → (∀ vs, tgIn vs t = true → wipe σ' vs = wipe σ vs) → Qt ρ' → Q σ' H'
def tTs (W : Wd) (Φ : Wg.Ctx) (ts : Tgs) : TGs := fun vs σ H Q => ∃ Z S ρ ds, ∃ Qt : Wg.Env → Prop, R W Z S ρ σ H ∧ Reps W S H vs ds ∧ ds.length = ts.len ∧ Wg.wTs Φ ts ds ρ Qt ∧
  ∀ σ' H' S' ρ', Ext Z S H S' H' → R W Z S' ρ' σ' H' → (∀ vs, tgsIn vs ts = true → wipe σ' vs = wipe σ vs) → Qt ρ' → Q σ' H'
theorem wipe_get : ∀ {vs : List Nat} {σ : L2.St} {j : Nat}, (wipe σ vs)[j]? = if j ∈ vs then (σ[j]?).map (fun _ => none) else σ[j]?
  | [], σ, j => by simp [wipe]
  | v :: vs, σ, j => by
    unfold wipe
    by_cases e : j = v
    · subst e
      rw [List.getElem?_set_self', wipe_get]
      simp only [List.mem_cons, true_or, if_true]
      split
      · cases σ[j]? <;> rfl
      · cases σ[j]? <;> rfl
    · rw [List.getElem?_set_ne (Ne.symm e), wipe_get]
      simp [List.mem_cons, e]
theorem wipe_set {vs : List Nat} {σ : L2.St} {i : Nat} {x : Option V} (h : vs.contains i = true) : wipe (σ.set i x) vs = wipe σ vs := by
  apply List.ext_getElem?
  intro j
  have hi : i ∈ vs := by simpa using h
  rw [wipe_get, wipe_get]
  by_cases e : j = i
  · subst e
    rw [if_pos hi, if_pos hi, List.getElem?_set_self']
    cases σ[j]? <;> rfl
  · rw [List.getElem?_set_ne (Ne.symm e)]
theorem wipe_wipe {vs : List Nat} {σ : L2.St} : wipe (wipe σ vs) vs = wipe σ vs := by
  apply List.ext_getElem?
  intro j
  rw [wipe_get, wipe_get]
  split
  · cases σ[j]? <;> rfl
  · rfl
section
variable {T : Tab} {X : Cx} {W : Wd} {Φ : Wg.Ctx} {N : List Str} {ex l r m : Expr} {pos np : Pos} {a b c : Ex} {es : Exs} {xs : List Expr} {x : Str}
theorem snd_nm {i : Nat} (hk : W.keep i = none) (hN : X.N.Nodup) (hi : X.N[i]? = some x) (hl : Loc X.env.scope x) (hf : X.fn x = true ∨ X.env.scope.names.lookup x = some .local) : PG X (.Name x pos) (tT W Φ (.nm i)) := by
  refine PG.imp (pg_name hN hi hl hf) fun v σ H Q ⟨Z, S, ρ, s, Qt, r, hv, hw, k⟩ => ?_
  rcases hv with hv | ⟨⟨ts, e⟩, _⟩
  · exact k _ H S _ .refl (r.set hk hv) (fun vs h => wipe_set h) hw
  · cases e
theorem each_pl {env : PySem.Env} : ∀ {xs : List Expr}, xs.all plB = true → (assignEach xs env).length = xs.length ∧ (assignEach xs env).findIdx? (·.1) = none
  | [], _ => ⟨rfl, rfl⟩
  | e :: es, h => by
    simp only [List.all_cons, Bool.and_eq_true] at h
    have q : assignEach (e :: es) env = (false, assign e env) :: assignEach es env := by
      obtain ⟨h1, _⟩ := h
      cases e <;> first | rfl | cases h1
    obtain ⟨h1, h2⟩ := each_pl (env := env) h.2
    rw [q]
    refine ⟨by rw [List.length_cons, List.length_cons, h1], ?_⟩
    rw [List.findIdx?_cons, h2]
    rfl
theorem snd_Ts0 : PGs X [] (tTs W Φ .n) := PGs.imp pgs_nil fun vs σ H Q ⟨Z, S, ρ, ds, Qt, r, hv, hl, hw, k⟩ => by
  cases hv with
  | nil => exact ⟨rfl, k σ H S ρ .refl r (fun _ _ => rfl) hw⟩
  | cons h t => exact absurd hl (by simp [Wg.Tgs.len])
theorem snd_Ts1 {t : Tg} {ts : Tgs} (h1 : PG X l (tT W Φ t)) (h2 : PGs X xs (tTs W Φ ts)) (hp : plB l = true) : PGs X (l :: xs) (tTs W Φ (.c t ts)) := by
  have hs : (assignEach (l :: xs) X.env).map (·.2) = assign l X.env :: (assignEach xs X.env).map (·.2) := by
    cases l <;> first | rfl | cases hp
  refine PGs.imp (pgs_cons h1 h2 hs) fun vs σ H Q ⟨Z, S, ρ, ds, Qt, r, hv, hl, hw, k⟩ => ?_
  cases hv with
  | nil => exact absurd hl (by simp [Wg.Tgs.len])
  | @cons v vs d ds h t =>
    refine ⟨v, vs, rfl, Z, S, ρ, .sh d, _, r, .inl h, hw, fun σ1 H1 S1 ρ1 e1 r1 wp q => ?_⟩
    refine ⟨Z, S1, ρ1, ds, Qt, r1, Reps.mono e1.s _ _ t, by simpa [Wg.Tgs.len] using hl, q, fun σ2 H2 S2 ρ2 e2 r2 wp2 q2 => k σ2 H2 S2 ρ2 (e1.trans e2) r2 (fun vs h => ?_) q2⟩
    have h : (tgIn vs _ && tgsIn vs _) = true := h
    simp only [Bool.and_eq_true] at h
    exact (wp2 vs h.2).trans (wp vs h.1)
theorem snd_tp {k : Nat} {ts : Tgs} (hc : X.calm = true) (hK : W.K = X.K) (h : PGs X xs (tTs W Φ ts)) (hp : xs.all plB = true) (hl : xs.length = ts.len) : PG X (.Tuple xs k pos) (tT W Φ (.tp ts)) := by
  refine PG.imp (pg_tup hc h (each_pl hp).1 (each_pl hp).2) fun v σ H Q ⟨Z, S, ρ, s, Qt, r, hv, hw, k⟩ => ?_
  unfold Wg.wT at hw
  split at hw
  · rename_i l es
    obtain ⟨hn, hw⟩ := hw
    have fin : ∀ {S' a ys}, Ext Z S H S' H → R W Z S' ρ σ H → v = .ref a → SqT W.K H a ys → Reps W S' H ys l → ∃ a xs_1, v = .ref a ∧ SqT X.K H a xs_1 ∧ xs_1.length = xs.length ∧ tTs W Φ ts xs_1 σ H Q := fun {S' a ys} e r' ev sq rs =>
      ⟨a, ys, ev, hK ▸ sq, by rw [rs.length, hn, hl], Z, S', ρ, l, Qt, r', rs, hn, hw, fun σ' H' S2 ρ' e2 r2 wp q => k σ' H' S2 ρ' (e.trans e2) r2 wp q⟩
    rcases hv with hv | ⟨_, a, ys, l', e, e2, sq, rs⟩
    · obtain ⟨S', e1, r', rv⟩ := fin_val r hv
      rw [es] at rv
      obtain ⟨a, ys, ev, sq, rs⟩ := Rep.tupv rv
      exact fin e1 r' ev sq rs
    · subst e
      have es : D.tup l' = D.tup l := es
      cases es
      exact fin .refl r e2 sq rs
  · exact hw.elim
theorem assign_pl {o i : Expr} (hp : plB i = true) : ∀ v, assign (.Subscript o i pos) X.env v = (do
      let ov ← holding [v] (eval o X.env)
      let iv ← holding [v, ov] (eval i X.env)
      standAt pos
      holding [v, ov, iv] (setItem ov iv v)
      release [v, ov, iv] []) := by
  intro v
  cases i <;> first | rfl | cases hp
/-- the item of a list of one's own -/
theorem setK_ok {Z S : AS} {ρ : Wg.Env} {σ : L2.St} {H : Hp} {k : Nat} {i d : D} {K : Wg.Env → Prop} {vi v : V} (r : R W Z S ρ σ H) (hi : Rep W S H vi i) (hd : Rep W S H v d) (h : Wg.setK ρ k i d K) {Q : Hp → Prop}
    (q : ∀ H' ρ', Ext Z S H S H' → R W Z S ρ' σ H' → K ρ' → Q H') : ∃ o, σ[k]? = some (some o) ∧ rSetL o vi v H Q := by
  unfold Wg.setK at h
  split at h
  · rename_i l j el
    obtain ⟨a, ys, h1, h2, h3, h4⟩ := r.put el
    cases hi
    unfold Wg.setL at h
    split at h
    · rename_i n en
      obtain ⟨e3, r3⟩ := h4 (ys.set n v) (l.set n d) (Reps.set hd n h3)
      refine ⟨_, h1, a, ys, j, n, rfl, rfl, h2, ?_, q _ _ e3 r3 h⟩
      rw [← ixOf_eq, h3.length]
      exact en
    · exact h.elim
  · exact (r.od k _ (by assumption)).elim
  · exact h.elim
theorem snd_sb {k : Nat} {i : Ex} (hv : PE X l (tVar k)) (hi : PE X r (tX W Φ i)) (hp : plB r = true) : PG X (.Subscript l r pos) (tT W Φ (.sb k i)) := by
  refine PG.imp (pg_sub hv hi set_list (assign_pl hp)) fun v σ H Q ⟨Z, S, ρ, s, Qt, r, hv, hw, kk⟩ => ?_
  rcases hv with hv | ⟨⟨ts, e⟩, _⟩
  · unfold Wg.wT at hw
    obtain ⟨S1, e1, r1, rv⟩ := fin_val r hv
    obtain ⟨o, ho⟩ := r1.live hw.1
    refine ⟨o, ho, Z, S1, ρ, _, r1, hw.2, fun vi H2 S2 ρ2 si e2 r2 ri q => ?_⟩
    obtain ⟨S3, e3, r3, ri'⟩ := fin_val r2 ri
    obtain ⟨o', ho', h⟩ := setK_ok r3 ri' (Rep.mono (e2.trans e3).s _ _ rv) q (Q := fun H3 => Q σ H3) fun H' ρ' e4 r4 q4 => kk σ H' S3 ρ' (e1.trans (e2.trans (e3.trans e4))) r4 (fun _ _ => rfl) q4
    rw [ho] at ho'
    cases ho'
    exact h
  · cases e
/-! ### what is walked -/
def isZip : Wg.It → Prop
  | .zip _ => True
  | _ => False
/-- J walks the values of items -/
def Wk (W : Wd) (S : AS) (H : Hp) (J : L2.It) (items : List D) (p : Prop) : Prop := ∃ G Y, Walk J items.length G Y ∧ (∀ (S2 : AS) H2, (∀ a, S a → S2 a ∧ H2 a = H a) → G H2) ∧
  ∀ (S2 : AS) H2 i x H3, (∀ a, S a → S2 a ∧ H2 a = H a) → i < items.length → Y i H2 x H3 →
    (H3 = H2 ∧ ∃ d, items[i]? = some d ∧ Rep W S2 H2 x d) ∨ (p ∧ ∃ T v w d e, x = .ref T ∧ H2 T = none ∧ H3 = upd H2 T (.tup [v, w]) ∧ items[i]? = some (.tup [d, e]) ∧ Rep W S2 H2 v d ∧ Rep W S2 H2 w e)
def tI (W : Wd) (Φ : Wg.Ctx) (it : Wg.It) : TI := fun σ H Q => ∃ Z S ρ, ∃ Qi : List D → Wg.Env → Prop, R W Z S ρ σ H ∧ Wg.wI Φ it ρ Qi ∧
  ∀ J H' S' ρ' items, Ext Z S H S' H' → R W Z S' ρ' σ H' → Wk W S' H' J items (isZip it) → items.length ≤ sizeLine → Qi items ρ' → Q J H'
/-- what holds in every state -/
theorem PE.inv {e : Expr} {t : TE} {F : Hp → Prop} (h : PE X e t) (f : ∀ pins σ H s, Inv X pins σ H s → F H) : PE X e (fun σ H Q => t σ H fun v H1 => F H1 → Q v H1) :=
  ⟨fun pins s σ H Q I q => thn (h.run pins s σ H _ I q) fun u s1 ⟨v, H1, I1, r1, q1⟩ => ⟨v, H1, I1, r1, q1 (f _ _ _ _ I1)⟩⟩
theorem PA.inv {e : List Expr} {t : TA} {F : Hp → Prop} (h : PA X e t) (f : ∀ pins σ H s, Inv X pins σ H s → F H) : PA X e (fun σ H Q => t σ H fun v H1 => F H1 → Q v H1) :=
  ⟨fun pos pins s σ H Q I q => thn (h.run pos pins s σ H _ I q) fun u s1 ⟨v, H1, I1, r1, q1⟩ => ⟨v, H1, I1, r1, q1 (f _ _ _ _ I1)⟩⟩
def Small (K : PySem.W.Frag) (H : Hp) : Prop := ∀ a xs, SqL K H a xs ∨ SqT K H a xs → xs.length ≤ sizeLine
theorem small_inv : ∀ pins σ H s, Inv X pins σ H s → Small X.K H := fun pins σ H s I a xs h => by
  rcases h with h | h
  · exact (I.list h).choose_spec.2.2
  · exact (I.tuple h).choose_spec.2.2
def iSeq (K : PySem.W.Frag) (tl : TE) : TI := fun σ H R => tl σ H fun x H1 => ∃ a, x = .ref a ∧ ((∃ xs, SqL K H1 a xs ∧ R (Itl K a) H1) ∨ (∃ xs, SqT K H1 a xs ∧ R (Itt K a) H1))
theorem pi_seq {tg l : Expr} {tl : TE} (hl : PE X l tl) : PI X tg l (iSeq X.K tl) := by
  refine ⟨fun pins s σ H R I h => ?_⟩
  refine thn (hl.run pins s σ H _ I h) fun v s1 ⟨x, H1, I1, r1, q1⟩ => ?_
  obtain ⟨a, e, q1⟩ := q1
  subst e
  cases r1
  rcases q1 with ⟨xs, hq, q⟩ | ⟨xs, hq, q⟩
  · obtain ⟨its, rv, p, hz⟩ := I1.list hq
    refine wpAny_pyIter_list p.isList ?_
    refine ⟨s1.heap.objs.size, [s1.heap.objs.size], _, _, H1, rfl, I1.kept (t' := s1.toks) fun b o e => Heap.get?_push_of_some _ e, turn_list a _, ⟨_, Heap.get?_push_size _ rfl, rfl, rfl⟩, fun b hb => ?_, q⟩
    have e : b = s1.heap.objs.size := by simpa using hb
    subst e
    exact I1.fpOk (Nat.le_refl _) (I1.hok.fresh (Nat.le_refl _))
  · obtain ⟨its, rv, p, hz⟩ := I1.tuple hq
    refine wpAny_pyIter_tuple (show s1.heap.IsTuple a its.toArray from p) ?_
    refine ⟨s1.heap.objs.size, [s1.heap.objs.size], _, _, H1, rfl, I1.kept (t' := s1.toks) fun b o e => Heap.get?_push_of_some _ e, turn_tuple a _, ⟨_, Heap.get?_push_size _ rfl, rfl, rfl⟩, fun b hb => ?_, q⟩
    have e : b = s1.heap.objs.size := by simpa using hb
    subst e
    exact I1.fpOk (Nat.le_refl _) (I1.hok.fresh (Nat.le_refl _))
/-- a tuple's place in the heap -/
theorem tup_at {S : AS} {H : Hp} {v : V} {l : List D} (h : Rep W S H v (.tup l)) : ∃ a xs, v = .ref a ∧ Reps W S H xs l ∧ SqT W.K H a xs ∧ ∀ (S2 : AS) H2, (∀ a, S a → S2 a ∧ H2 a = H a) → SqT W.K H2 a xs ∧ Reps W S2 H2 xs l := by
  cases h with
  | tup hs ha hd hr => exact ⟨_, _, rfl, hr, .inl (.inr ⟨_, ha⟩), fun S2 H2 k => ⟨.inl (.inr ⟨_, (k _ hs).2.trans ha⟩), Reps.mono k _ _ hr⟩⟩
  | ktup hk hr =>
    have q : ∀ H2, SqT W.K H2 _ _ := fun H2 => .inr (let ⟨o, its, n, h1, h2, _, h3⟩ := hk; ⟨o, its, n, h1, h2, h3⟩)
    exact ⟨_, _, rfl, hr, q H, fun S2 H2 k => ⟨q H2, Reps.mono k _ _ hr⟩⟩
theorem lst_at {S : AS} {H : Hp} {v : V} {l : List D} (h : Rep W S H v (.lst l)) : ∃ a xs, v = .ref a ∧ Reps W S H xs l ∧ SqL W.K H a xs ∧ ∀ (S2 : AS) H2, (∀ a, S a → S2 a ∧ H2 a = H a) → SqL W.K H2 a xs ∧ Reps W S2 H2 xs l := by
  cases h with
  | lst hs ha hr => exact ⟨_, _, rfl, hr, SqL.of ha, fun S2 H2 k => ⟨SqL.of ((k _ hs).2.trans ha), Reps.mono k _ _ hr⟩⟩
theorem wk_seq {S : AS} {H : Hp} {J : L2.It} {xs : List V} {l : List D} {p : Prop} {G : Hp → Prop} (w : Walk J xs.length G (YAt xs)) (hr : Reps W S H xs l) (g : ∀ (S2 : AS) H2, (∀ a, S a → S2 a ∧ H2 a = H a) → G H2 ∧ Reps W S2 H2 xs l) : Wk W S H J l p := by
  refine ⟨G, YAt xs, hr.length ▸ w, fun S2 H2 k => (g S2 H2 k).1, fun S2 H2 i x H3 k hi y => .inl ⟨y.1, ?_⟩⟩
  exact (g S2 H2 k).2.get' y.2
theorem snd_Ie {tg : Expr} {e : Ex} (hK : W.K = X.K) (h : PE X l (tX W Φ e)) : PI X tg l (tI W Φ (.e e)) := by
  refine PI.imp (pi_seq (PE.inv h small_inv)) fun σ H Q ⟨Z, S, ρ, Qi, r, hw, k⟩ => ?_
  unfold Wg.wI at hw
  refine ⟨Z, S, ρ, _, r, hw, fun v H1 S1 ρ1 s e1 r1 rv q sm => ?_⟩
  obtain ⟨S2, e2, r2, rv2⟩ := fin_val r1 rv
  unfold Wg.itemsV at q
  split at q
  · rename_i l es
    rw [es] at rv2
    obtain ⟨a, xs, rfl, hr, sq, st⟩ := tup_at rv2
    refine ⟨a, rfl, .inr ⟨xs, hK ▸ sq, k _ H1 S2 ρ1 l (e1.trans e2) r2 (wk_seq (hK ▸ walk_tup) hr st) ?_ q⟩⟩
    rw [← hr.length]
    exact sm a xs (.inr (hK ▸ sq))
  · rename_i l es
    rw [es] at rv2
    obtain ⟨a, xs, rfl, hr, sq, st⟩ := lst_at rv2
    refine ⟨a, rfl, .inl ⟨xs, hK ▸ sq, k _ H1 S2 ρ1 l (e1.trans e2) r2 (wk_seq (hK ▸ walk_list) hr st) ?_ q⟩⟩
    rw [← hr.length]
    exact sm a xs (.inl (hK ▸ sq))
  · exact q.elim
theorem rangeD_len (lo hi : Int) : (Wg.rangeD lo hi).length = (hi - lo).toNat := by simp [Wg.rangeD]
theorem wk_range {S : AS} {H : Hp} {lo hi : Int} {n : Nat} {p : Prop} (hn : n = (hi - lo).toNat) : Wk W S H (Itr lo n) (Wg.rangeD lo hi) p := by
  subst hn
  refine ⟨fun _ => True, YFn fun i => .int (lo + i), by rw [rangeD_len]; exact walk_range, fun _ _ _ => trivial, fun S2 H2 i x H3 k hl y => .inl ⟨y.1, .int (lo + i), ?_, by rw [y.2]; exact .int _⟩⟩
  rw [rangeD_len] at hl
  simp [Wg.rangeD, hl]
theorem RepTs.int1 {S : AS} {H : Hp} {vs : List V} {j : Int} (h : RepTs W S H vs [.int j]) : vs = [.int j] := by
  cases h with
  | cons h t => cases t; rw [h.int]
theorem RepTs.int2 {S : AS} {H : Hp} {vs : List V} {i j : Int} (h : RepTs W S H vs [.int i, .int j]) : vs = [.int i, .int j] := by
  cases h with
  | cons h t => cases t with | cons h2 t => cases t; rw [h.int, h2.int]
theorem wOs_len1 {e : Expr} {vs : List V} {es : Exs} (hl : ([e] : List Expr).length = es.len) (h : vs.length = es.len) : vs.length = 1 := by rw [h, ← hl]; rfl
theorem RepTs.length {S : AS} {H : Hp} : ∀ {vs : List V} {ds : List D}, RepTs W S H vs ds → vs.length = ds.length
  | _, _, .nil => rfl
  | _, _, .cons _ t => congrArg (· + 1) (RepTs.length t)
theorem snd_Ir1 {tg e : Expr} (g : Good T W Φ N X) (hg : Gl X "range") (h : PA X [e] (tOs W Φ es)) (hl : es.len = 1) (hp : plB e = true) : PI X tg (.Call (.Name "range" np) [e] [] pos) (tI W Φ (.range es)) := by
  refine PI.imp (pi_range1 hg g.rng h (star_pl hp)) fun σ H Q ⟨Z, S, ρ, Qi, r, hw, k⟩ => ?_
  unfold Wg.wI at hw
  refine ⟨Z, S, ρ, _, r, hw, fun vs H1 S1 ρ1 os e1 r1 rs hn q => ?_⟩
  obtain ⟨ds, q, rd⟩ := RepOs.get r1 rs q
  have hlen := rd.length
  rw [hn, hl] at hlen
  unfold Wg.rngV at q
  split at q
  · rename_i j
    refine ⟨j, rd.int1, by have := q.2.1; omega, by have := q.1; unfold LB at this; omega, k _ H1 S1 ρ1 _ e1 r1 (wk_range (by simp)) ?_ q.2.2⟩
    rw [rangeD_len, sizeLine_eq]
    have := q.1
    unfold LB at this
    omega
  · cases hlen
  · exact q.elim
theorem snd_Ir2 {tg e e2 : Expr} (g : Good T W Φ N X) (hg : Gl X "range") (h : PA X [e, e2] (tOs W Φ es)) (hl : es.len = 2) (hp : plB e = true) (hp2 : plB e2 = true) : PI X tg (.Call (.Name "range" np) [e, e2] [] pos) (tI W Φ (.range es)) := by
  refine PI.imp (pi_range2 hg g.rng h (by rw [star_pl hp, star_pl hp2]; rfl) (by rw [star_pl hp2]; rfl)) fun σ H Q ⟨Z, S, ρ, Qi, r, hw, k⟩ => ?_
  unfold Wg.wI at hw
  refine ⟨Z, S, ρ, _, r, hw, fun vs H1 S1 ρ1 os e1 r1 rs hn q => ?_⟩
  obtain ⟨ds, q, rd⟩ := RepOs.get r1 rs q
  have hlen := rd.length
  rw [hn, hl] at hlen
  unfold Wg.rngV at q
  split at q
  · cases hlen
  · rename_i i j
    obtain ⟨q1, q2, q3, q4, q5⟩ := q
    unfold LB at q1 q3
    refine ⟨i, j, rd.int2, ⟨by omega, by omega, by omega, by omega⟩, k _ H1 S1 ρ1 _ e1 r1 (wk_range rfl) ?_ q5⟩
    rw [rangeD_len, sizeLine_eq]
    omega
  · exact q.elim
/-! ### zip -/
theorem zipW_at {xs ys : List D} {i : Nat} (h : i < (List.zipWith (fun a b => D.tup [a, b]) xs ys).length) : ∃ d e, xs[i]? = some d ∧ ys[i]? = some e ∧ (List.zipWith (fun a b => D.tup [a, b]) xs ys)[i]? = some (.tup [d, e]) := by
  have h1 : i < xs.length := by simp at h; omega
  have h2 : i < ys.length := by simp at h; omega
  exact ⟨xs[i], ys[i], by simp [h1], by simp [h2], by simp [List.getElem?_zipWith, h1, h2]⟩
theorem wk_zip {S : AS} {H : Hp} {J : L2.It} {xs ys : List V} {l m : List D} {p : Prop} {G : Hp → Prop} (hp : p) (w : Walk J (min xs.length ys.length) G (YPair (fun i => xs[i]?) (fun i => ys[i]?))) (hx : Reps W S H xs l) (hy : Reps W S H ys m)
    (g : ∀ (S2 : AS) H2, (∀ a, S a → S2 a ∧ H2 a = H a) → G H2 ∧ Reps W S2 H2 xs l ∧ Reps W S2 H2 ys m) : Wk W S H J (List.zipWith (fun a b => .tup [a, b]) l m) p := by
  refine ⟨G, YPair (fun i => xs[i]?) (fun i => ys[i]?), ?_, fun S2 H2 k => (g S2 H2 k).1, fun S2 H2 i x H3 k hi y => .inr ⟨hp, ?_⟩⟩
  · rw [List.length_zipWith, ← hx.length, ← hy.length]; exact w
  · obtain ⟨T, v, w', h1, h2, h3, h4, h5⟩ := y
    obtain ⟨_, gx, gy⟩ := g S2 H2 k
    obtain ⟨d, e, e1, e2, e3⟩ := zipW_at hi
    obtain ⟨d', q1, q2⟩ := gx.get' h4
    obtain ⟨e', q3, q4⟩ := gy.get' h5
    rw [e1] at q1; cases q1
    rw [e2] at q3; cases q3
    exact ⟨T, v, w', d, e, h1, h2, h3, e3, q2, q4⟩
theorem walk_zipT {K : PySem.W.Frag} {a b : Addr} {xs ys : List V} : Walk (ItzT K a b) (min xs.length ys.length) (fun H => SqT K H a xs ∧ SqT K H b ys) (YPair (fun i => xs[i]?) (fun i => ys[i]?)) := by
  refine ⟨fun i _ hi q => ?_, fun _ q => ⟨xs, ys, q.1, q.2, by omega⟩, fun i H v H' _ q y => ?_⟩
  · have h1 : i < xs.length := by omega
    have h2 : i < ys.length := by omega
    exact ⟨xs, ys, xs[i], ys[i], q.1, q.2, by simp [h1], by simp [h2]⟩
  · obtain ⟨T, x, z, h1, h2, h3, h4, h5⟩ := y
    exact ⟨T, x, z, h1, h2, h3, h4 xs q.1, h5 ys q.2⟩
theorem RepOs.getF {Z S : AS} {ρ : Wg.Env} {σ : L2.St} {H : Hp} {vs : List V} {os : List Opd} {K : List D → Prop} (r : R W Z S ρ σ H) (rs : RepOs W S σ H vs os) (g : Wg.gets ρ os K) : ∃ S2 ds, Ext Z S H S2 H ∧ R W Z S2 (Wg.freezes ρ os) σ H ∧ K ds ∧ Reps W S2 H vs ds := by
  obtain ⟨S2, e2, r2, ho⟩ := R.freezes os r
  obtain ⟨ds, q, rd⟩ := RepOs.getS (S' := S2) r rs (fun a h => (e2.s a h).1) ho g
  exact ⟨S2, ds, e2, r2, q, rd⟩
theorem snd_Iz {e e2 : Expr} {elts : List Expr} {kk : Nat} {tpos : Pos} (g : Good T W Φ N X) (hg : Gl X "zip") (h : PA X [e, e2] (tOs W Φ es)) (hp : plB e = true) (hp2 : plB e2 = true) : PI X (.Tuple elts kk tpos) (.Call (.Name "zip" np) [e, e2] [] pos) (tI W Φ (.zip es)) := by
  have hpl : (backTo pos (starEach [e2] X.env)).any (·.1) = false := (plAll_star (by simp [hp2]) pos).2
  refine PI.imp (pi_zipA hg g.zp (PA.inv h small_inv) (star_pl hp) hpl) fun σ H Q ⟨Z, S, ρ, Qi, r, hw, k⟩ => ?_
  unfold Wg.wI at hw
  refine ⟨Z, S, ρ, _, r, hw, fun vs H1 S1 ρ1 os e1 r1 rs hn q sm => ?_⟩
  obtain ⟨S2, ds, e2, r2, q, rd⟩ := RepOs.getF r1 rs q
  split at q
  · rename_i l m
    cases rd with
    | cons h1 t =>
      cases t with
      | cons h2 t =>
        cases t
        obtain ⟨a, xs, rfl, hr1, sq1, st1⟩ := tup_at h1
        obtain ⟨b, ys, rfl, hr2, sq2, st2⟩ := tup_at h2
        refine ⟨a, b, xs, ys, rfl, .inr ⟨g.hK ▸ sq1, g.hK ▸ sq2, k _ H1 S2 _ _ (e1.trans e2) r2 (wk_zip (G := fun H => SqT X.K H a xs ∧ SqT X.K H b ys) trivial walk_zipT hr1 hr2 fun S3 H3 kk => ⟨⟨g.hK ▸ (st1 S3 H3 kk).1, g.hK ▸ (st2 S3 H3 kk).1⟩, (st1 S3 H3 kk).2, (st2 S3 H3 kk).2⟩) ?_ q⟩⟩
        rw [List.length_zipWith, ← hr1.length]
        have := sm a xs (.inr (g.hK ▸ sq1))
        omega
  · rename_i l m
    cases rd with
    | cons h1 t =>
      cases t with
      | cons h2 t =>
        cases t
        obtain ⟨a, xs, rfl, hr1, sq1, st1⟩ := lst_at h1
        obtain ⟨b, ys, rfl, hr2, sq2, st2⟩ := lst_at h2
        refine ⟨a, b, xs, ys, rfl, .inl ⟨g.hK ▸ sq1, g.hK ▸ sq2, k _ H1 S2 _ _ (e1.trans e2) r2 (wk_zip (G := fun H => SqL X.K H a xs ∧ SqL X.K H b ys) trivial (walk_zip rfl) hr1 hr2 fun S3 H3 kk => ⟨⟨g.hK ▸ (st1 S3 H3 kk).1, g.hK ▸ (st2 S3 H3 kk).1⟩, (st1 S3 H3 kk).2, (st2 S3 H3 kk).2⟩) ?_ q⟩⟩
        rw [List.length_zipWith, ← hr1.length]
        have := sm a xs (.inl (g.hK ▸ sq1))
        omega
  · exact q.elim
end
end WgS
set_option Elab.async false
set_option linter.all false
set_option maxRecDepth 100000
set_option maxHeartbeats 1000000
/-! WgS: comprehensions. -/
namespace WgS
open PySem PySem.Spec PyProof.Rows L2
open Wg (D Slot Opd Ex Exs Tg Tgs Kvs Sts BOp COp Blt Mth LB)
section
variable {W : Wd} {Z S S' : AS} {ρ ρ' ρ1 ρ2 : Wg.Env} {σ : L2.St} {H H' : Hp} {v : V} {p : Addr}
theorem R.clr {i : Nat} (hk : W.keep i = none) (r : R W Z S ρ σ H) : R W Z S (ρ.set i .un) (σ.set i none) H := by
  have hl := r.len
  have get : ∀ (j : Nat) (t : Slot), t ≠ .un → (ρ.set i .un)[j]? = some t → j ≠ i ∧ ρ[j]? = some t := fun j t ht e => by
    by_cases c : j = i
    · subst c
      rw [List.getElem?_set_self'] at e
      cases q : ρ[j]? with
      | none => rw [q] at e; cases e
      | some x => rw [q] at e; cases e; exact (ht rfl).elim
    · rw [List.getElem?_set_ne (Ne.symm c)] at e
      exact ⟨c, e⟩
  have own : ∀ j : Nat, isOwn (ρ.set i Slot.un)[j]? → j ≠ i ∧ isOwn ρ[j]? := fun j o => by
    cases q : (ρ.set i Slot.un)[j]? with
    | none => rw [q] at o; exact o.elim
    | some t =>
      rw [q] at o
      have ht : t ≠ .un := fun z => by subst z; exact o.elim
      obtain ⟨h1, h2⟩ := get j t ht q
      exact ⟨h1, by rw [h2]; exact o⟩
  refine ⟨by simp [hl], fun j v e => by rw [List.getElem?_set_ne (fun q => by rw [← q, hk] at e; cases e)]; exact r.keep j v e, fun j d e => ?_, fun j l e => ?_, fun j l e => ?_, fun j k a h1 h2 e1 e2 => ?_, r.trk, r.dz, r.pool⟩
  · obtain ⟨h1, h2⟩ := get j _ (by simp) e
    obtain ⟨w, g1, g2⟩ := r.sh j d h2
    exact ⟨w, by rw [List.getElem?_set_ne (Ne.symm h1)]; exact g1, g2⟩
  · obtain ⟨h1, h2⟩ := get j _ (by simp) e
    obtain ⟨a, xs, g1, g2⟩ := r.ol j l h2
    exact ⟨a, xs, by rw [List.getElem?_set_ne (Ne.symm h1)]; exact g1, g2⟩
  · obtain ⟨h1, h2⟩ := get j _ (by simp) e
    exact r.od j l h2
  · obtain ⟨n1, o1⟩ := own j h1
    obtain ⟨n2, o2⟩ := own k h2
    rw [List.getElem?_set_ne (Ne.symm n1)] at e1
    rw [List.getElem?_set_ne (Ne.symm n2)] at e2
    exact r.dis j k a o1 o2 e1 e2
theorem R.wipe : ∀ (own : List Nat), (∀ i ∈ own, W.keep i = none) → R W Z S ρ σ H → R W Z S (Wg.wipeE ρ own) (L2.wipe σ own) H
  | [], _, r => r
  | i :: is, h, r => (R.wipe is (fun j hj => h j (List.mem_cons_of_mem _ hj)) r).clr (h i List.mem_cons_self)
theorem freeze_own {i j : Nat} (h : isOwn (Wg.freeze ρ i)[j]?) : j ≠ i ∧ isOwn ρ[j]? := by
  unfold Wg.freeze at h
  split at h
  · rename_i l e
    by_cases c : j = i
    · subst c
      rw [List.getElem?_set_self'] at h
      rw [e] at h
      exact h.elim
    · rw [List.getElem?_set_ne (Ne.symm c)] at h
      exact ⟨c, h⟩
  · rename_i l e
    by_cases c : j = i
    · subst c
      rw [List.getElem?_set_self'] at h
      rw [e] at h
      exact h.elim
    · rw [List.getElem?_set_ne (Ne.symm c)] at h
      exact ⟨c, h⟩
  · rename_i n1 n2
    refine ⟨fun c => ?_, h⟩
    subst c
    unfold isOwn at h
    split at h
    · rename_i l e; exact n1 l e
    · rename_i l e; exact n2 l e
    · exact h
theorem R.freeze1 {i : Nat} (r : R W Z S ρ σ H) : ∃ S2, Ext Z S H S2 H ∧ R W Z S2 (Wg.freeze ρ i) σ H := by
  obtain ⟨S2, e, r2, _⟩ := R.freezes [.r i] r
  exact ⟨S2, e, r2⟩
theorem R.freezeI : ∀ (own : List Nat), R W Z S ρ σ H → ∃ S2, Ext Z S H S2 H ∧ R W Z S2 (Wg.freezeI ρ own) σ H ∧ ∀ i ∈ own, ¬ isOwn (Wg.freezeI ρ own)[i]?
  | [], r => ⟨S, .refl, r, fun i h => nomatch h⟩
  | i :: is, r => by
    obtain ⟨S1, e1, r1, n1⟩ := R.freezeI is r
    obtain ⟨S2, e2, r2⟩ := r1.freeze1 (i := i)
    refine ⟨S2, e1.trans e2, r2, fun j hj o => ?_⟩
    obtain ⟨h1, h2⟩ := freeze_own (show isOwn (Wg.freeze (Wg.freezeI ρ is) i)[j]? from o)
    rcases List.mem_cons.mp hj with q | q
    · exact h1 q
    · exact n1 j q h2
/-- an address is kept as it is -/
theorem R.guard (r : R W Z S ρ σ H) (hs : Own W Z S p) (hn : NoOwn ρ σ p) (ht : H p ≠ none) : R W (AS.and Z p) S ρ σ H := by
  refine ⟨r.len, r.keep, r.sh, fun i l e => ?_, r.od, r.dis, fun a h => ?_, fun a h z => ?_, fun q hq => ?_⟩
  · obtain ⟨a, xs, h1, h2, h3, h4⟩ := r.ol i l e
    refine ⟨a, xs, h1, h2, ⟨h3.1, fun z => ?_, h3.2.2⟩, h4⟩
    rcases z with z | z
    · exact h3.2.1 z
    · subst z; exact hn i (by rw [e]; trivial) h1
  · rcases h with h | h | h
    · exact r.trk a (.inl h)
    · exact r.trk a (.inr h)
    · subst h; exact ht
  · rcases z with z | z
    · exact r.dz a h z
    · subst z; exact hs.1 h
  · obtain ⟨h1, h2, h3⟩ := r.pool q hq
    refine ⟨h1, fun z => ?_, h3⟩
    rcases z with z | z
    · exact h2 z
    · subst z; exact hs.2.2 hq
theorem R.unguard (r : R W (AS.and Z p) S ρ σ H) (hz : ¬ Z p) : R W Z S ρ σ H ∧ Own W Z S p ∧ NoOwn ρ σ p := by
  refine ⟨⟨r.len, r.keep, r.sh, fun i l e => ?_, r.od, r.dis, fun a h => ?_, fun a h z => r.dz a h (.inl z), fun q hq => ?_⟩, ⟨fun h => r.dz p h (.inr rfl), hz, fun hp => (r.pool p hp).2.1 (.inr rfl)⟩, fun i hi e => (r.own_trk hi e).2.2.1 (.inr rfl)⟩
  · obtain ⟨a, xs, h1, h2, h3, h4⟩ := r.ol i l e
    exact ⟨a, xs, h1, h2, ⟨h3.1, fun z => h3.2.1 (.inl z), h3.2.2⟩, h4⟩
  · rcases h with h | h
    · exact r.trk a (.inl h)
    · exact r.trk a (.inr (.inl h))
  · obtain ⟨h1, h2, h3⟩ := r.pool q hq
    exact ⟨h1, fun z => h2 (.inl z), h3⟩
/-- what is kept may be written by its owner -/
theorem R.updZ {o : HO} (r : R W Z S ρ σ H) (hz : Z p) : R W Z S ρ σ (L2.upd H p o) := by
  have ks : ∀ a, S a → S a ∧ (L2.upd H p o) a = H a := fun a h => ⟨h, upd_ne (fun e => r.dz a h (e ▸ hz))⟩
  refine ⟨r.len, r.keep, fun i d e => ?_, fun i l e => ?_, r.od, r.dis, fun a h => ?_, r.dz, fun q hq => ?_⟩
  · obtain ⟨v, h1, h2⟩ := r.sh i d e
    exact ⟨v, h1, Rep.mono ks _ _ h2⟩
  · obtain ⟨a, xs, h1, h2, h3, h4⟩ := r.ol i l e
    exact ⟨a, xs, h1, (show (L2.upd H p o) a = H a from upd_ne (fun e => h3.2.1 (by rw [e]; exact hz))).trans h2, h3, Reps.mono ks _ _ h4⟩
  · by_cases e : a = p
    · rw [e, upd_same]; simp
    · rw [upd_ne e]; exact r.trk a h
  · obtain ⟨h1, h2, e2, ns, i, x, c, z, e1, e3, e4⟩ := r.pool q hq
    have n1 : q ≠ p := fun e => h2 (e ▸ hz)
    exact ⟨h1, h2, e2, ns, i, x, c, z, by rw [upd_ne n1]; exact e1, (ks _ e2).2.trans e3, e4⟩
theorem Ext.unguard (e : Ext (AS.and Z p) S H S' H') : Ext Z S H S' H' ∧ H' p = H p := ⟨⟨e.s, fun a h => e.z a (.inl h)⟩, e.z p (.inr rfl)⟩
theorem backE_get : ∀ {own : List Nat} {j : Nat}, (Wg.backE ρ1 ρ2 own)[j]? = if j ∈ own then (ρ2[j]?).map (fun _ => ρ1[j]?.getD .un) else ρ2[j]?
  | [], j => by simp [Wg.backE]
  | i :: is, j => by
    unfold Wg.backE
    by_cases e : j = i
    · subst e
      rw [List.getElem?_set_self', backE_get]
      simp only [List.mem_cons, true_or, if_true]
      split
      · cases ρ2[j]? <;> rfl
      · cases ρ2[j]? <;> rfl
    · rw [List.getElem?_set_ne (Ne.symm e), backE_get]
      simp [List.mem_cons, e]
theorem backE_len : ∀ (own : List Nat), (Wg.backE ρ1 ρ2 own).length = ρ2.length
  | [] => rfl
  | i :: is => by unfold Wg.backE; rw [List.length_set, backE_len is]
theorem R.back {own : List Nat} (r : R W Z S ρ σ H) (e : Ext Z S H S' H') (r' : R W Z S' ρ' (L2.wipe σ own) H') (no : ∀ i ∈ own, ¬ isOwn ρ[i]?) :
    R W Z S' (Wg.backE ρ ρ' own) σ H' ∧ ∀ p, NoOwn ρ' (L2.wipe σ own) p → NoOwn (Wg.backE ρ ρ' own) σ p := by
  have ownB : ∀ j : Nat, isOwn (Wg.backE ρ ρ' own)[j]? → j ∉ own ∧ isOwn ρ'[j]? := fun j o => by
    rw [backE_get] at o
    split at o
    · rename_i hj
      exfalso
      cases q : ρ'[j]? with
      | none => rw [q] at o; exact o
      | some x =>
        rw [q] at o
        apply no j hj
        cases z : ρ[j]? with
        | none => rw [z] at o; exact o
        | some y => rw [z] at o; exact o
    · rename_i hj
      exact ⟨hj, o⟩
  have wout : ∀ j : Nat, j ∉ own → (L2.wipe σ own)[j]? = σ[j]? := fun j h => wipe_out h
  refine ⟨⟨?_, r.keep, fun j d q => ?_, fun j l q => ?_, fun j l q => ?_, fun i j a h1 h2 e1 e2 => ?_, r'.trk, r'.dz, r'.pool⟩, fun p hn i hi q => ?_⟩
  · rw [backE_len, r'.len, wipe_length]
  · rw [backE_get] at q
    split at q
    · rename_i hj
      cases z : ρ[j]? with
      | none =>
        rw [z] at q
        cases w : ρ'[j]? <;> rw [w] at q <;> cases q
      | some y =>
        rw [z] at q
        cases w : ρ'[j]? with
        | none => rw [w] at q; cases q
        | some u =>
          rw [w] at q
          cases q
          obtain ⟨v, h1, h2⟩ := r.sh j d z
          exact ⟨v, h1, Rep.mono e.s _ _ h2⟩
    · rename_i hj
      obtain ⟨v, h1, h2⟩ := r'.sh j d q
      exact ⟨v, by rw [← wout j hj]; exact h1, h2⟩
  · obtain ⟨hj, _⟩ := ownB j (by rw [q]; trivial)
    rw [backE_get, if_neg hj] at q
    obtain ⟨a, xs, h1, h2⟩ := r'.ol j l q
    exact ⟨a, xs, by rw [← wout j hj]; exact h1, h2⟩
  · obtain ⟨hj, _⟩ := ownB j (by rw [q]; trivial)
    rw [backE_get, if_neg hj] at q
    exact r'.od j l q
  · obtain ⟨n1, o1⟩ := ownB i h1
    obtain ⟨n2, o2⟩ := ownB j h2
    exact r'.dis i j a o1 o2 (by rw [wout i n1]; exact e1) (by rw [wout j n2]; exact e2)
  · obtain ⟨n1, o1⟩ := ownB i hi
    exact hn i o1 (by rw [wout i n1]; exact q)
end
section
variable {T : Tab} {X : Cx} {W : Wd} {Φ : Wg.Ctx} {N : List Str} {a : Ex} {t : Tg} {it : Wg.It} {c : Exs} {own : List Nat}
theorem zipB_tp (h : zipB it t = true) (z : isZip it) : ∃ ts, t = .tp ts := by
  cases it with
  | zip es =>
    cases t with
    | tp ts => exact ⟨ts, rfl⟩
    | nm i => cases h
    | sb k i => cases h
  | e e => exact z.elim
  | range es => exact z.elim
theorem lc_imp (hk : ∀ i ∈ own, W.keep i = none) (htg : tgIn own t = true) (hz : zipB it t = true) : ∀ σ H Q, tX W Φ (.lc own a t it c) σ H Q → tLc (tI W Φ it) (tT W Φ t) (tCs W Φ c) (tX W Φ a) own σ H Q := fun σ H Q ⟨Z, S, ρ, Qs, r, hw, k⟩ => by
  unfold Wg.wX at hw
  refine ⟨Z, S, ρ, _, r, hw, fun J H1 S1 ρ1 items e1 r1 wk sm q D hD => ?_⟩
  obtain ⟨S2, e2, r2, no⟩ := R.freezeI own r1
  have oD := r2.own_new hD
  have nD := r2.noOwn_new hD
  have r3 := r2.upd oD nD (.lst [])
  have r5 := (r3.guard oD nD (by rw [upd_same]; simp)).wipe own hk
  obtain ⟨G, Y, w, hG, hY⟩ := wk
  have stab : ∀ {S4 H4}, Ext Z S2 (L2.upd H1 D (.lst [])) S4 H4 → ∀ a, S1 a → S4 a ∧ H4 a = H1 a := fun {S4 H4} ex a ha => by
    have h2 := (e2.s a ha).1
    obtain ⟨h3, h4⟩ := ex.s a h2
    exact ⟨h3, h4.trans (upd_ne (fun e => oD.1 (e ▸ h2)))⟩
  refine lc_it w (Pv := fun i H => ∃ S4 acc ds ρ4, Ext Z S2 (L2.upd H1 D (.lst [])) S4 H ∧ R W (AS.and Z D) S4 ρ4 (L2.wipe σ own) H ∧ H D = some (.lst acc) ∧ Reps W S4 H acc ds ∧ ds.length ≤ i ∧
    Wg.lcW (fun x ρ' K => Wg.wT Φ t (.sh x) ρ' fun ρ2 => Wg.wCs Φ c ρ2 fun b ρ3 => bif b then Wg.wX Φ a ρ3 fun s ρ4 => K (some s.val) (Wg.wipeE ρ4 own) else K none (Wg.wipeE ρ3 own)) (items.drop i) ds ρ4
        fun ds ρ2 => Qs (.ol ds) (Wg.backE (Wg.freezeI ρ1 own) ρ2 own)) ⟨S2, [], [], _, .refl, r5, upd_same, .nil, Nat.le_refl _, q⟩
    (fun i H4 _ ⟨S4, acc, ds, ρ4, ex, _⟩ => hG S4 H4 (stab ex)) (fun i x H4 H5 hi ⟨S4, acc, ds, ρ4, ex, rr, hDD, ra, hl, hq⟩ y => ?_) (fun H4 ⟨S4, acc, ds, ρ4, ex, rr, hDD, ra, hl, hq⟩ => ?_)
  · have hd : items.drop i = items[i] :: items.drop (i + 1) := List.drop_eq_getElem_cons hi
    rw [hd] at hq
    have hq := (show Wg.wT Φ t (.sh items[i]) ρ4 _ from hq)
    -- what is behind the targets
    have behind : ∀ σ2 H6 S6 ρ6, Ext (AS.and Z D) S4 H4 S6 H6 → R W (AS.and Z D) S6 ρ6 σ2 H6 → (∀ vs, tgIn vs t = true → L2.wipe σ2 vs = L2.wipe (L2.wipe σ own) vs) → (Wg.wCs Φ c ρ6 fun b ρ3 => bif b then Wg.wX Φ a ρ3 fun s ρ4 => Wg.lcW (fun x ρ' K => Wg.wT Φ t (.sh x) ρ' fun ρ2 => Wg.wCs Φ c ρ2 fun b ρ3 => bif b then Wg.wX Φ a ρ3 fun s ρ4 => K (some s.val) (Wg.wipeE ρ4 own) else K none (Wg.wipeE ρ3 own)) (items.drop (i + 1)) (ds ++ [s.val]) (Wg.wipeE ρ4 own)
        (fun ds ρ2 => Qs (.ol ds) (Wg.backE (Wg.freezeI ρ1 own) ρ2 own)) else Wg.lcW (fun x ρ' K => Wg.wT Φ t (.sh x) ρ' fun ρ2 => Wg.wCs Φ c ρ2 fun b ρ3 => bif b then Wg.wX Φ a ρ3 fun s ρ4 => K (some s.val) (Wg.wipeE ρ4 own) else K none (Wg.wipeE ρ3 own)) (items.drop (i + 1)) ds (Wg.wipeE ρ3 own)
        fun ds ρ2 => Qs (.ol ds) (Wg.backE (Wg.freezeI ρ1 own) ρ2 own)) →
        L2.wipe σ2 own = L2.wipe σ own ∧ tCs W Φ c σ2 H6 fun b H7 => if b = true then tX W Φ a σ2 H7 fun y H8 => ∃ acc, H8 D = some (.lst acc) ∧ acc.length < sizeLine ∧ (∃ S4 acc_1 ds ρ4, Ext Z S2 (L2.upd H1 D (.lst [])) S4 (L2.upd H8 D (.lst (acc ++ [y]))) ∧ R W (AS.and Z D) S4 ρ4 (L2.wipe σ own) (L2.upd H8 D (.lst (acc ++ [y]))) ∧ (L2.upd H8 D (.lst (acc ++ [y]))) D = some (.lst acc_1) ∧ Reps W S4 (L2.upd H8 D (.lst (acc ++ [y]))) acc_1 ds ∧ ds.length ≤ i + 1 ∧
          Wg.lcW (fun x ρ' K => Wg.wT Φ t (.sh x) ρ' fun ρ2 => Wg.wCs Φ c ρ2 fun b ρ3 => bif b then Wg.wX Φ a ρ3 fun s ρ4 => K (some s.val) (Wg.wipeE ρ4 own) else K none (Wg.wipeE ρ3 own)) (items.drop (i + 1)) ds ρ4 fun ds ρ2 => Qs (.ol ds) (Wg.backE (Wg.freezeI ρ1 own) ρ2 own)) else
          (∃ S4 acc ds ρ4, Ext Z S2 (L2.upd H1 D (.lst [])) S4 H7 ∧ R W (AS.and Z D) S4 ρ4 (L2.wipe σ own) H7 ∧ H7 D = some (.lst acc) ∧ Reps W S4 H7 acc ds ∧ ds.length ≤ i + 1 ∧
          Wg.lcW (fun x ρ' K => Wg.wT Φ t (.sh x) ρ' fun ρ2 => Wg.wCs Φ c ρ2 fun b ρ3 => bif b then Wg.wX Φ a ρ3 fun s ρ4 => K (some s.val) (Wg.wipeE ρ4 own) else K none (Wg.wipeE ρ3 own)) (items.drop (i + 1)) ds ρ4 fun ds ρ2 => Qs (.ol ds) (Wg.backE (Wg.freezeI ρ1 own) ρ2 own)) := by
      intro σ2 H6 S6 ρ6 e6 r6 wp q6
      have hwipe : L2.wipe σ2 own = L2.wipe σ own := (wp own htg).trans wipe_wipe
      refine ⟨hwipe, AS.and Z D, S6, ρ6, _, r6, q6, fun b H7 S7 ρ7 e7 r7 q7 => ?_⟩
      have e67 := e6.trans e7
      cases b with
      | false =>
        refine ⟨S7, acc, ds, _, ex.trans e67.unguard.1, hwipe ▸ r7.wipe own hk, e67.unguard.2.trans hDD, Reps.mono e67.s _ _ ra, Nat.le_succ_of_le hl, q7⟩
      | true =>
        refine ⟨AS.and Z D, S7, ρ7, _, r7, q7, fun y H8 S8 ρ8 s e8 r8 ry q8 => ?_⟩
        obtain ⟨S9, e9, r9, ry9⟩ := fin_val r8 ry
        have eAll := (e67.trans e8).trans e9
        have hD8 := eAll.unguard.2.trans hDD
        have rU := r9.updZ (p := D) (o := .lst (acc ++ [y])) (.inr rfl)
        have eU : Ext Z S9 H8 S9 (L2.upd H8 D (.lst (acc ++ [y]))) := ⟨fun b hb => ⟨hb, upd_ne (fun e => r9.dz b hb (.inr e))⟩, fun b hb => upd_ne (fun e => oD.2.1 (e ▸ hb))⟩
        refine ⟨acc, hD8, ?_, S9, acc ++ [y], ds ++ [s.val], _, (ex.trans eAll.unguard.1).trans eU, hwipe ▸ rU.wipe own hk, upd_same, ?_, ?_, q8⟩
        · rw [ra.length]
          omega
        · exact Reps.mono eU.s _ _ (Reps.snoc (Reps.mono eAll.s _ _ ra) ry9)
        · rw [List.length_append]
          simp
          omega
    rcases hY S4 H4 i x H5 (stab ex) hi y with ⟨rfl, d, hd2, rx⟩ | ⟨hz2, P, v1, w1, d, e, rfl, hP, rfl, hd2, rv1, rw1⟩
    · have : items[i] = d := by rw [List.getElem?_eq_getElem hi] at hd2; exact Option.some.inj hd2
      rw [this] at hq
      exact ⟨AS.and Z D, S4, ρ4, .sh d, _, rr, .inl rx, hq, fun σ2 H6 S6 ρ6 e6 r6 wp q6 => behind σ2 H6 S6 ρ6 e6 r6 wp q6⟩
    · have : items[i] = .tup [d, e] := by rw [List.getElem?_eq_getElem hi] at hd2; exact Option.some.inj hd2
      rw [this] at hq
      have oP := rr.own_new hP
      have eP := Ext.upd (H := H4) oP (.tup [v1, w1])
      have rP := rr.upd oP (rr.noOwn_new hP) (.tup [v1, w1])
      refine ⟨AS.and Z D, S4, ρ4, .sh (.tup [d, e]), _, rP, .inr ⟨zipB_tp hz hz2, P, [v1, w1], [d, e], rfl, rfl, .inl (.inl upd_same), Reps.mono eP.s _ _ (.cons rv1 (.cons rw1 .nil))⟩, hq, fun σ2 H6 S6 ρ6 e6 r6 wp q6 => behind σ2 H6 S6 ρ6 (eP.trans e6) r6 wp q6⟩
  · rw [List.drop_length] at hq
    have hq : Qs (.ol ds) (Wg.backE (Wg.freezeI ρ1 own) ρ4 own) := hq
    obtain ⟨rU, o4, n4⟩ := rr.unguard oD.2.1
    obtain ⟨rB, nB⟩ := R.back r3 ex rU no
    exact k (.ref D) H4 S4 _ (.ol ds) ((e1.trans e2).trans ((Ext.upd oD _).trans ex)) rB ⟨D, acc, rfl, hDD, o4, nB D n4, ra⟩ hq
theorem ownP_snd : (ownP N own).map (·.2) = own := by
  unfold ownP
  rw [List.map_map]
  exact List.map_id _
theorem folded_pl {e : Expr} {env : PySem.Env} (h : plB e = true) : ∀ x, foldedSetIterable e env x = pure x := by
  intro x
  cases e <;> first | rfl | cases h
theorem snd_lc {elt tg iter : Expr} {ifs : List Expr} {scope : Scope} {pos : Pos} (g : Good T W Φ N X) (hi : PI X tg iter (tI W Φ it)) (ok : BlkOk X.N X.env.scope scope (ownP N own))
    (hg : ∀ (s : Shared) (H : Hp) (C : Addr) (cl : List (Str × Addr)) (fp : List Addr), PG (X.blk s H scope (compEnvC scope cl C X.env) fp) tg (tT W Φ t))
    (ht : ∀ (s : Shared) (H : Hp) (C : Addr) (cl : List (Str × Addr)) (fp : List Addr), PTs (X.blk s H scope (compEnvC scope cl C X.env) fp) ifs (tCs W Φ c))
    (he : ∀ (s : Shared) (H : Hp) (C : Addr) (cl : List (Str × Addr)) (fp : List Addr), PE (X.blk s H scope (compEnvC scope cl C X.env) fp) elt (tX W Φ a)) (hp : plB iter = true) (hk : ∀ i ∈ own, W.keep i = none) (htg : tgIn own t = true) (hz : zipB it t = true) :
    PE X (.ListComp elt [⟨tg, iter, ifs, 0⟩] scope pos) (tX W Φ (.lc own a t it c)) := by
  refine PE.imp (pe_lc g.calm (g.hN ▸ g.nd) hi ok hg ht he (folded_pl hp)) ?_
  rw [ownP_snd]
  exact lc_imp hk htg hz
theorem snd_setLc {elt tg iter : Expr} {ifs : List Expr} {scope : Scope} {pos spos py : Pos} {i : Nat} {y : Str} (g : Good T W Φ N X) (hy : X.N[i]? = some y) (hyl : X.env.scope.names.lookup y = some .local)
    (hsw : swapsWith (.ListComp elt [⟨tg, iter, ifs, 0⟩] scope pos) (some (.Name y py)) spos.line X.env = pure true) (hi : PI X tg iter (tI W Φ it)) (ok : BlkOk X.N X.env.scope scope (ownP N own))
    (hg : ∀ (s : Shared) (H : Hp) (C : Addr) (cl : List (Str × Addr)) (fp : List Addr), PG (X.blk s H scope (compEnvC scope cl C X.env) fp) tg (tT W Φ t))
    (ht : ∀ (s : Shared) (H : Hp) (C : Addr) (cl : List (Str × Addr)) (fp : List Addr), PTs (X.blk s H scope (compEnvC scope cl C X.env) fp) ifs (tCs W Φ c))
    (he : ∀ (s : Shared) (H : Hp) (C : Addr) (cl : List (Str × Addr)) (fp : List Addr), PE (X.blk s H scope (compEnvC scope cl C X.env) fp) elt (tX W Φ a)) (hp : plB iter = true) (hk : ∀ i ∈ own, W.keep i = none) (htg : tgIn own t = true) (hz : zipB it t = true) :
    PS X (.Assign [.Name y py] (.ListComp elt [⟨tg, iter, ifs, 0⟩] scope pos) spos) (tAsg (tX W Φ (.lc own a t it c)) (gName i)) := by
  refine PS.imp (ps_setLc g.calm (g.hN ▸ g.nd) hy hyl hsw hi ok hg ht he (folded_pl hp)) fun D σ H q => ?_
  rw [ownP_snd]
  exact lc_imp hk htg hz σ H _ q
end
end WgS
set_option Elab.async false
set_option linter.all false
set_option maxRecDepth 100000
set_option maxHeartbeats 1000000
/-! WgS: the order of the stores. -/
namespace WgS
open PySem PySem.Spec PyProof.Rows L2
theorem blockKind_fn {env : PySem.Env} (hk : env.scope.kind = .function) : env.blockKind = .function := by
  unfold Env.blockKind; rw [hk]; rfl
theorem swp_eq {env : PySem.Env} {tg e : Expr} {o : Option (List Str)} (hk : env.scope.kind = .function) (h : swp env.scope [tg] e = some o) : swappedStores [tg] e env = pure o := by
  have hb := blockKind_fn hk
  cases tg with
  | Tuple ts k p =>
    cases e with
    | Tuple vs k2 p2 =>
      unfold swp at h
      unfold swappedStores
      have hkd : ∀ x, env.kindOf x = env.scope.names.lookup x := fun _ => rfl
      simp only [hb, hkd, bne_self_eq_false, Bool.or_false]
      dsimp only at h
      split at h
      · rename_i c
        cases h
        exact (if_pos c)
      · rename_i c
        refine (if_neg c).trans ?_
        split at h
        · rename_i c2
          cases h
          exact (if_pos c2)
        · rename_i c2
          refine (if_neg c2).trans ?_
          split at h
          · rename_i c3
            cases h
            exact (if_pos c3)
          · rename_i c3
            refine (if_neg c3).trans ?_
            split at h
            · rename_i c4
              cases h
              exact (if_pos c4)
            · rename_i c4
              refine (if_neg c4).trans ?_
              split at h
              · cases h
              · rename_i c5
                cases h
                exact (if_neg c5)
    | _ => cases h; rfl
  | List ts p =>
    cases e with
    | Tuple vs k2 p2 => cases h
    | _ => cases h; rfl
  | _ => cases h; rfl
/-- the names of a swap's left side -/
def swF (sc : Scope) (line : Nat) : Expr → Option Str
  | .Name id pos => if (sc.names.lookup id == some .local && pos.line == line) = true then some id else none
  | _ => none
theorem swF_some {sc : Scope} {line : Nat} {t : Expr} {x : Str} (h : swF sc line t = some x) : ∃ p, t = .Name x p ∧ sc.names.lookup x = some .local := by
  unfold swF at h
  split at h
  · rename_i id pos
    split at h
    · rename_i c
      cases h
      simp only [Bool.and_eq_true] at c
      refine ⟨pos, rfl, ?_⟩
      cases q : sc.names.lookup x with
      | none => rw [q] at c; cases c.1
      | some k =>
        rw [q] at c
        cases k <;> first | rfl | (exact absurd c.1 (by decide))
    · cases h
  · cases h
theorem swp_names {sc : Scope} {ts vs : List Expr} {k k2 : Nat} {p p2 : Pos} {names : List Str} (h : swp sc [.Tuple ts k p] (.Tuple vs k2 p2) = some (some names)) :
    (ts.length = 2 ∨ ts.length = 3) ∧ vs.length = ts.length ∧ (∃ line, names = ts.filterMap (swF sc line)) ∧ names.length = ts.length ∧ names.eraseDups.length = names.length := by
  unfold swp at h
  dsimp only at h
  split at h
  · cases h
  · rename_i c
    split at h
    · cases h
    · split at h
      · cases h
      · rename_i c3
        split at h
        · cases h
        · split at h
          · cases h
          · cases h
            simp only [Bool.or_eq_true, Bool.not_eq_true, bne_iff_ne, ne_eq, not_or, Decidable.not_not, Bool.not_eq_eq_eq_not, Bool.not_true, beq_iff_eq, Bool.or_eq_false_iff, beq_eq_false_iff_ne] at c c3
            refine ⟨?_, c.2, ⟨(ts.head?.map (·.pos.line)).getD 0, ?_⟩, c3.1, c3.2⟩
            · omega
            · congr 1
theorem swp_two {sc : Scope} {t1 t2 : Expr} {vs : List Expr} {k k2 : Nat} {p p2 : Pos} {names : List Str} (h : swp sc [.Tuple [t1, t2] k p] (.Tuple vs k2 p2) = some (some names)) :
    ∃ x px y py a b, t1 = .Name x px ∧ t2 = .Name y py ∧ vs = [a, b] ∧ names = [x, y] ∧ sc.names.lookup x = some .local ∧ sc.names.lookup y = some .local ∧ x ≠ y := by
  obtain ⟨_, hv, ⟨line, hn⟩, hl, hd⟩ := swp_names h
  obtain ⟨a, b, rfl⟩ : ∃ a b, vs = [a, b] := by
    rcases vs with _ | ⟨a, _ | ⟨b, _ | ⟨c, r⟩⟩⟩ <;> first | exact ⟨a, b, rfl⟩ | cases hv
  simp only [List.filterMap_cons, List.filterMap_nil] at hn
  cases e1 : swF sc line t1 with
  | none =>
    rw [e1] at hn
    cases e2 : swF sc line t2 <;> rw [e2] at hn <;> subst hn <;> cases hl
  | some x =>
    cases e2 : swF sc line t2 with
    | none => rw [e1, e2] at hn; subst hn; cases hl
    | some y =>
      rw [e1, e2] at hn
      subst hn
      obtain ⟨px, rfl, lx⟩ := swF_some e1
      obtain ⟨py, rfl, ly⟩ := swF_some e2
      refine ⟨x, px, y, py, a, b, rfl, rfl, rfl, rfl, lx, ly, fun e => ?_⟩
      subst e
      simp [List.eraseDups_cons] at hd
theorem swp_three {sc : Scope} {t1 t2 t3 : Expr} {vs : List Expr} {k k2 : Nat} {p p2 : Pos} {names : List Str} (h : swp sc [.Tuple [t1, t2, t3] k p] (.Tuple vs k2 p2) = some (some names)) :
    ∃ x px y py z pz a b c, t1 = .Name x px ∧ t2 = .Name y py ∧ t3 = .Name z pz ∧ vs = [a, b, c] ∧ names = [x, y, z] ∧ sc.names.lookup x = some .local ∧ sc.names.lookup y = some .local ∧ sc.names.lookup z = some .local ∧ x ≠ y ∧ x ≠ z ∧ y ≠ z := by
  obtain ⟨_, hv, ⟨line, hn⟩, hl, hd⟩ := swp_names h
  obtain ⟨a, b, c, rfl⟩ : ∃ a b c, vs = [a, b, c] := by
    rcases vs with _ | ⟨a, _ | ⟨b, _ | ⟨c, _ | ⟨d, r⟩⟩⟩⟩ <;> first | exact ⟨a, b, c, rfl⟩ | cases hv
  simp only [List.filterMap_cons, List.filterMap_nil] at hn
  cases e1 : swF sc line t1 with
  | none => rw [e1] at hn; cases e2 : swF sc line t2 <;> cases e3 : swF sc line t3 <;> rw [e2, e3] at hn <;> subst hn <;> cases hl
  | some x =>
    cases e2 : swF sc line t2 with
    | none => rw [e1, e2] at hn; cases e3 : swF sc line t3 <;> rw [e3] at hn <;> subst hn <;> cases hl
    | some y =>
      cases e3 : swF sc line t3 with
      | none => rw [e1, e2, e3] at hn; subst hn; cases hl
      | some z =>
        rw [e1, e2, e3] at hn
        subst hn
        obtain ⟨px, rfl, lx⟩ := swF_some e1
        obtain ⟨py, rfl, ly⟩ := swF_some e2
        obtain ⟨pz, rfl, lz⟩ := swF_some e3
        refine ⟨x, px, y, py, z, pz, a, b, c, rfl, rfl, rfl, rfl, rfl, lx, ly, lz, fun e => ?_, fun e => ?_, fun e => ?_⟩
        · subst e
          rw [List.eraseDups_cons] at hd
          have := List.length_filter_le (fun b => !b == x) [x, z]
          simp only [List.filter_cons, beq_self_eq_true, Bool.not_true, Bool.false_eq_true, if_false, List.filter_nil, List.length_cons] at hd
          split at hd <;> simp [List.eraseDups_cons] at hd
        · subst e
          rw [List.eraseDups_cons] at hd
          simp only [List.filter_cons, beq_self_eq_true, Bool.not_true, Bool.false_eq_true, if_false, List.filter_nil, List.length_cons] at hd
          split at hd <;> simp [List.eraseDups_cons] at hd
        · subst e
          by_cases q : (y == x) = true
          · have q' : y = x := by simpa using q
            subst q'
            simp [List.eraseDups_cons] at hd
          · simp [List.eraseDups_cons, q] at hd
/-- a comprehension that stores its list itself -/
def swB (sc : Scope) (value tg : Expr) : Bool :=
  match value, tg with
  | .ListComp _ _ s _, .Name t pos => (match sc.names.lookup t with | some .local => true | _ => false) && pos.line == value.pos.line && !(s.names.any fun (n, k) => n == t && (k == .local || k == .cell))
  | _, _ => false
def notComp : Expr → Bool
  | .SetComp .. => false
  | .DictComp .. => false
  | _ => true
theorem swapsWith_eq {env : PySem.Env} {value tg : Expr} {l : Nat} (hk : env.scope.kind = .function) (hc : notComp value = true) : swapsWith value (some tg) l env = pure (swB env.scope value tg) := by
  have hb := blockKind_fn hk
  cases value with
  | ListComp e gs s p =>
    cases tg with
    | Name t pos =>
      unfold swapsWith swB
      simp only [hb]
      show (pure _ : Sem Bool) = pure _
      congr 1
      have e : (env.kindOf t == some NameKind.local) = (match env.scope.names.lookup t with | some .local => true | _ => false) := by
        show (env.scope.names.lookup t == some NameKind.local) = _
        cases env.scope.names.lookup t with
        | none => rfl
        | some k => cases k <;> rfl
      rw [e]
      rfl
    | _ => rfl
  | SetComp => cases hc
  | DictComp => cases hc
  | _ => rfl
end WgS
set_option Elab.async false
set_option linter.all false
set_option maxRecDepth 100000
set_option maxHeartbeats 1000000
/-! WgS: statements. -/
namespace WgS
open PySem PySem.Spec PyProof.Rows L2
open Wg (D Slot Opd Ex Exs Tg Tgs Kvs Sts BOp COp Blt Mth LB)
/-- the ends of Wg are among the ends -/
structure Fin (W : Wd) (Z S : AS) (H : Hp) (E : Wg.Ends) (D : L2.Ends) : Prop where
  nx : ∀ σ' H' S' ρ', Ext Z S H S' H' → R W Z S' ρ' σ' H' → E.nx ρ' → D.nx σ' H'
  rt : ∀ v H' S' ρ' σ' d, Ext Z S H S' H' → R W Z S' ρ' σ' H' → Rep W S' H' v d → E.rt d ρ' → D.rt v H'
  bk : ∀ σ' H' S' ρ', Ext Z S H S' H' → R W Z S' ρ' σ' H' → E.bk ρ' → D.bk σ' H'
  ct : ∀ σ' H' S' ρ', Ext Z S H S' H' → R W Z S' ρ' σ' H' → E.ct ρ' → D.ct σ' H'
theorem Fin.ext {W : Wd} {Z S S1 : AS} {H H1 : Hp} {E : Wg.Ends} {D : L2.Ends} (f : Fin W Z S H E D) (e : Ext Z S H S1 H1) : Fin W Z S1 H1 E D :=
  ⟨fun σ' H' S' ρ' e1 => f.nx σ' H' S' ρ' (e.trans e1), fun v H' S' ρ' σ' d e1 => f.rt v H' S' ρ' σ' d (e.trans e1), fun σ' H' S' ρ' e1 => f.bk σ' H' S' ρ' (e.trans e1), fun σ' H' S' ρ' e1 => f.ct σ' H' S' ρ' (e.trans e1)⟩
/-- a statement's reading, by its weakest precondition -/
def tW (W : Wd) (w : Wg.Env → Wg.Ends → Prop) : TS := fun D σ H => ∃ Z S ρ, ∃ E : Wg.Ends, R W Z S ρ σ H ∧ w ρ E ∧ Fin W Z S H E D
section
variable {T : Tab} {X : Cx} {W : Wd} {Φ : Wg.Ctx} {N : List Str} {ex l r m : Expr} {pos np : Pos} {a b c e : Ex} {t : Tg} {es : Exs} {xs : List Expr} {x : Str} {st st2 : List Stmt} {w u : Wg.Env → Wg.Ends → Prop}
theorem snd_ss0 : PSs X [] (tW W fun ρ E => E.nx ρ) := PSs.imp pss_nil fun D σ H ⟨Z, S, ρ, E, r, hw, f⟩ => f.nx σ H S ρ .refl r hw
theorem snd_ss1 {s : Stmt} (h1 : PS X s (tW W w)) (h2 : PSs X st (tW W u)) : PSs X (s :: st) (tW W fun ρ E => w ρ ⟨fun ρ1 => u ρ1 E, E.rt, E.bk, E.ct⟩) :=
  PSs.imp (pss_cons h1 h2) fun D σ H ⟨Z, S, ρ, E, r, hw, f⟩ => ⟨Z, S, ρ, _, r, hw, ⟨fun σ' H' S' ρ' e1 r1 q => ⟨Z, S', ρ', E, r1, q, f.ext e1⟩, f.rt, f.bk, f.ct⟩⟩
theorem asg_imp : ∀ D σ H, tW W (fun ρ E => Wg.wX Φ e ρ fun s ρ1 => Wg.wT Φ t s ρ1 E.nx) D σ H → tAsg (tX W Φ e) (tT W Φ t) D σ H := fun D σ H ⟨Z, S, ρ, E, r, hw, f⟩ =>
  ⟨Z, S, ρ, _, r, hw, fun v H1 S1 ρ1 s e1 r1 rv q => ⟨Z, S1, ρ1, s, _, r1, .inl rv, q, fun σ' H' S' ρ' e2 r2 _ q2 => f.nx σ' H' S' ρ' (e1.trans e2) r2 q2⟩⟩
theorem asgN_imp {i : Nat} (hk : W.keep i = none) : ∀ D σ H, tW W (fun ρ E => Wg.wX Φ e ρ fun s ρ1 => Wg.wT Φ (.nm i) s ρ1 E.nx) D σ H → tAsg (tX W Φ e) (gName i) D σ H := fun D σ H ⟨Z, S, ρ, E, r, hw, f⟩ =>
  ⟨Z, S, ρ, _, r, hw, fun v H1 S1 ρ1 s e1 r1 rv q => f.nx _ H1 S1 _ e1 (r1.set hk rv) q⟩
theorem snd_asg {tg : Expr} (hk : X.env.scope.kind = .function) (he : PE X ex (tX W Φ e)) (hg : PG X tg (tT W Φ t)) (hs : swB X.env.scope ex tg = false) (hc : notComp ex = true) (hw : swp X.env.scope [tg] ex = some none) (hp : plB tg = true) :
    PS X (.Assign [tg] ex pos) (tW W fun ρ E => Wg.wX Φ e ρ fun s ρ1 => Wg.wT Φ t s ρ1 E.nx) := by
  refine PS.imp (ps_asg he hg (by show swapsWith ex (some tg) pos.line X.env = pure false; rw [swapsWith_eq hk hc, hs]) (swp_eq hk hw) ?_) asg_imp
  cases tg <;> first | rfl | cases hp
theorem snd_par2 {i j : Nat} (ki : W.keep i = none) (kj : W.keep j = none) {x y : Str} {a b : Expr} {px py pt : Pos} {kt k2 pt2} {e1 e2 : Ex} (g : Good T W Φ N X) (hk : X.env.scope.kind = .function) (hi : X.N[i]? = some x) (hj : X.N[j]? = some y) (hxy : x ≠ y)
    (hx : X.env.scope.names.lookup x = some .local) (hy : X.env.scope.names.lookup y = some .local) (ha : PA X [a, b] (tVs W Φ (.c e1 (.c e2 .n))))
    (hw : swp X.env.scope [.Tuple [.Name x px, .Name y py] kt pt] (.Tuple [a, b] k2 pt2) = some (some [x, y])) :
    PS X (.Assign [.Tuple [.Name x px, .Name y py] kt pt] (.Tuple [a, b] k2 pt2) pos) (tW W fun ρ E => Wg.wX Φ (.tup (.c e1 (.c e2 .n))) ρ fun s ρ1 => Wg.wT Φ (.tp (.c (.nm i) (.c (.nm j) .n))) s ρ1 E.nx) := by
  have hij : i ≠ j := fun z => by subst z; rw [hi] at hj; exact hxy (Option.some.inj hj)
  refine PS.imp (ps_par g.calm (g.hN ▸ g.nd) hi hj hij hx hy ha (swp_eq hk hw)) fun D σ H ⟨Z, S, ρ, E, r, hq, f⟩ => ?_
  unfold Wg.wX at hq
  refine ⟨Z, S, ρ, _, r, hq, fun vs H1 S1 ρ1 ds e1 r1 rs hn q => ?_⟩
  obtain ⟨q1, q⟩ := (show ds.length = 2 ∧ Wg.wTs Φ (.c (.nm i) (.c (.nm j) .n)) ds ρ1 E.nx from q)
  cases rs with
  | nil => cases q1
  | cons h1 rs =>
    cases rs with
    | nil => cases q1
    | cons h2 rs =>
      cases rs with
      | cons h3 rs => simp at q1
      | nil =>
        rename_i d1 v1 d2 v2
        refine ⟨_, _, rfl, f.nx _ H1 S1 _ e1 ((r1.set (s := .sh _) ki h1).set (s := .sh _) kj h2) q⟩
theorem snd_par3 {i j l : Nat} (ki : W.keep i = none) (kj : W.keep j = none) (kl : W.keep l = none) {x y z : Str} {a b c : Expr} {px py pz pt : Pos} {kt k2 pt2} {e1 e2 e3 : Ex} (g : Good T W Φ N X) (hk : X.env.scope.kind = .function) (hi : X.N[i]? = some x) (hj : X.N[j]? = some y) (hl : X.N[l]? = some z) (hxy : x ≠ y) (hxz : x ≠ z) (hyz : y ≠ z)
    (hx : X.env.scope.names.lookup x = some .local) (hy : X.env.scope.names.lookup y = some .local) (hz : X.env.scope.names.lookup z = some .local) (ha : PA X [a, b, c] (tVs W Φ (.c e1 (.c e2 (.c e3 .n)))))
    (hw : swp X.env.scope [.Tuple [.Name x px, .Name y py, .Name z pz] kt pt] (.Tuple [a, b, c] k2 pt2) = some (some [x, y, z])) :
    PS X (.Assign [.Tuple [.Name x px, .Name y py, .Name z pz] kt pt] (.Tuple [a, b, c] k2 pt2) pos) (tW W fun ρ E => Wg.wX Φ (.tup (.c e1 (.c e2 (.c e3 .n)))) ρ fun s ρ1 => Wg.wT Φ (.tp (.c (.nm i) (.c (.nm j) (.c (.nm l) .n)))) s ρ1 E.nx) := by
  have hij : i ≠ j := fun z => by subst z; rw [hi] at hj; exact hxy (Option.some.inj hj)
  have hil : i ≠ l := fun z => by subst z; rw [hi] at hl; exact hxz (Option.some.inj hl)
  have hjl : j ≠ l := fun z => by subst z; rw [hj] at hl; exact hyz (Option.some.inj hl)
  refine PS.imp (ps_par3 g.calm (g.hN ▸ g.nd) hi hj hl hij hil hjl hx hy hz ha (swp_eq hk hw)) fun D σ H ⟨Z, S, ρ, E, r, hq, f⟩ => ?_
  unfold Wg.wX at hq
  refine ⟨Z, S, ρ, _, r, hq, fun vs H1 S1 ρ1 ds e1 r1 rs hn q => ?_⟩
  obtain ⟨q1, q⟩ := (show ds.length = 3 ∧ Wg.wTs Φ (.c (.nm i) (.c (.nm j) (.c (.nm l) .n))) ds ρ1 E.nx from q)
  cases rs with
  | nil => cases q1
  | cons h1 rs =>
    cases rs with
    | nil => cases q1
    | cons h2 rs =>
      cases rs with
      | nil => cases q1
      | cons h3 rs =>
        cases rs with
        | cons h4 rs => simp at q1
        | nil => exact ⟨_, _, _, rfl, f.nx _ H1 S1 _ e1 (((r1.set (s := .sh _) ki h1).set (s := .sh _) kj h2).set (s := .sh _) kl h3) q⟩
/-! ### op= -/
def ipR (o : BOp) : TIp := fun x y H Q => ∃ i j, x = .int i ∧ y = .int j ∧ match o with
  | .add => Q (.int (i + j)) H
  | .sub => Q (.int (i - j)) H
  | .mul => Wg.okMul i j ∧ Q (.int (i * j)) H
  | _ => False
theorem ip_R (o : BOp) : PIp X (opOf o) (ipR o) := by
  intro pins s σ H x y v u Q I r1 r2 h
  obtain ⟨i, j, rfl, rfl, q⟩ := h
  obtain ⟨t, rfl⟩ := r1
  obtain ⟨t', rfl⟩ := r2
  cases o with
  | add => exact iadd_int ⟨.int _, H, I.tok _, ⟨_, rfl⟩, q⟩
  | sub => exact isub_int ⟨.int _, H, I.tok _, ⟨_, rfl⟩, q⟩
  | mul => exact imul_int ⟨.int _, H, I.tok _, ⟨_, rfl⟩, q.2⟩ (okMul_ok q.1)
  | fdiv => exact q.elim
  | mod => exact q.elim
theorem snd_aug {i : Nat} {o : BOp} (hk : W.keep i = none) (g : Good T W Φ N X) (hi : X.N[i]? = some x) (hl : Loc X.env.scope x) (hf : X.fn x = true ∨ X.env.scope.names.lookup x = some .local) (he : PE X ex (tX W Φ e)) :
    PS X (.AugAssign (.Name x np) (opOf o) ex pos) (tW W fun ρ E => Wg.wS Φ (.aug i o e) ρ E) := by
  refine PS.imp (ps_aug (g.hN ▸ g.nd) hi hl he (ip_R o) hf) fun D σ H ⟨Z, S, ρ, E, r, hw, f⟩ => ?_
  unfold Wg.wS at hw
  obtain ⟨v, hv⟩ : ∃ v, σ[i]? = some (some v) := by
    refine r.live ?_
    unfold Wg.peek at hw
    unfold Wg.live
    split at hw <;> rename_i q <;> first | (rw [q]; trivial) | exact hw.elim
  obtain ⟨x', hw, rx⟩ := RepO.get (o := .r i) r hv hw
  refine ⟨v, hv, Z, S, ρ, _, r, hw, fun y H1 S1 ρ1 s e1 r1 ry q => ?_⟩
  obtain ⟨S2, e2, r2, ry⟩ := fin_val r1 ry
  revert q ry
  generalize s.val = sv
  intro q ry
  split at q
  · cases rx.int
    cases ry
    exact ⟨_, _, rfl, rfl, f.nx _ H1 S2 _ (e1.trans e2) (r2.set (s := .sh (.int _)) hk (Rep.int _)) q⟩
  · cases rx.int
    cases ry
    exact ⟨_, _, rfl, rfl, f.nx _ H1 S2 _ (e1.trans e2) (r2.set (s := .sh (.int _)) hk (Rep.int _)) q⟩
  · cases rx.int
    cases ry
    exact ⟨_, _, rfl, rfl, q.1, f.nx _ H1 S2 _ (e1.trans e2) (r2.set (s := .sh (.int _)) hk (Rep.int _)) q.2⟩
  · exact q.elim
/-! ### other small ones -/
theorem snd_exp (he : PE X ex (tX W Φ e)) (hs : swapsWith ex none pos.line X.env = pure false) : PS X (.Expr ex pos) (tW W fun ρ E => Wg.wX Φ e ρ fun _ ρ1 => E.nx ρ1) :=
  PS.imp (ps_expr he hs) fun D σ H ⟨Z, S, ρ, E, r, hw, f⟩ => ⟨Z, S, ρ, _, r, hw, fun v H1 S1 ρ1 s e1 r1 rv q => f.nx σ H1 S1 ρ1 e1 r1 q⟩
theorem snd_ret (he : PE X ex (tX W Φ e)) : PS X (.Return (some ex) pos) (tW W fun ρ E => Wg.wX Φ e ρ fun s ρ1 => E.rt s.val ρ1) :=
  PS.imp (ps_ret he) fun D σ H ⟨Z, S, ρ, E, r, hw, f⟩ => ⟨Z, S, ρ, _, r, hw, fun v H1 S1 ρ1 s e1 r1 rv q => by
    obtain ⟨S2, e2, r2, rv2⟩ := fin_val r1 rv
    exact f.rt v H1 S2 ρ1 σ s.val (e1.trans e2) r2 rv2 q⟩
theorem snd_if {cx : Expr} (hc : PT X cx (tBl W Φ c)) (ha : PSs X st (tW W w)) (hb : PSs X st2 (tW W u)) : PS X (.If cx st st2 pos) (tW W fun ρ E => Wg.wX Φ c ρ fun s ρ1 => Wg.onB s fun t => bif t then w ρ1 E else u ρ1 E) :=
  PS.imp (ps_if hc ha hb) fun D σ H ⟨Z, S, ρ, E, r, hw, f⟩ => ⟨Z, S, ρ, fun t ρ1 => bif t then w ρ1 E else u ρ1 E, r, hw, fun t H1 S1 ρ1 e1 r1 q => by
    cases t with
    | true => exact ⟨Z, S1, ρ1, E, r1, q, f.ext e1⟩
    | false => exact ⟨Z, S1, ρ1, E, r1, q, f.ext e1⟩⟩
theorem snd_brk : PS X (.Break pos) (tW W fun ρ E => E.bk ρ) := PS.imp ps_break fun D σ H ⟨Z, S, ρ, E, r, hw, f⟩ => f.bk σ H S ρ .refl r hw
theorem snd_cnt : PS X (.Continue pos) (tW W fun ρ E => E.ct ρ) := PS.imp ps_continue fun D σ H ⟨Z, S, ρ, E, r, hw, f⟩ => f.ct σ H S ρ .refl r hw
theorem snd_rse {s : Stmt} : PS X s (tW W fun _ _ => False) := PS.imp ps_never fun D σ H ⟨Z, S, ρ, E, r, hw, f⟩ => hw.elim
/-! ### loops -/
theorem snd_whl {cx : Expr} (g : Good T W Φ N X) (hc : PT X cx (tBl W Φ c)) (hb : PSs X st (tW W w)) :
    PS X (.While cx st [] pos) (tW W fun ρ E => ∃ n, Wg.whW (fun ρ Q => Wg.wX Φ c ρ fun s ρ1 => Wg.onB s fun t => Q t ρ1) (fun ρ E => w ρ E) E n ρ) := by
  have never : PassesOwn (model X.prog X.w) X.A X.env X.xe := by rw [g.xe]; exact PySem.PassesOwn.never
  refine PS.imp (ps_while never hc hb) fun D σ H ⟨Z, S, ρ, E, r, ⟨n, hw⟩, f⟩ => ?_
  refine ⟨fun m σ1 H1 => ∃ S1 ρ1, Ext Z S H S1 H1 ∧ R W Z S1 ρ1 σ1 H1 ∧ Wg.whW (fun ρ Q => Wg.wX Φ c ρ fun s ρ1 => Wg.onB s fun t => Q t ρ1) (fun ρ E => w ρ E) E m ρ1, ⟨n, S, ρ, .refl, r, hw⟩, fun m σ1 H1 ⟨S1, ρ1, e1, r1, h1⟩ => ?_⟩
  cases m with
  | zero => exact (show False from h1).elim
  | succ m =>
    refine ⟨Z, S1, ρ1, fun t ρ2 => bif t then w ρ2 ⟨_, E.rt, E.nx, _⟩ else E.nx ρ2, r1, h1, fun t H2 S2 ρ2 e2 r2 q => ?_⟩
    cases t with
    | false => exact f.nx σ1 H2 S2 ρ2 (e1.trans e2) r2 q
    | true =>
      refine ⟨fun σ' H' => ∃ S1 ρ1, Ext Z S H S1 H' ∧ R W Z S1 ρ1 σ' H' ∧ Wg.whW (fun ρ Q => Wg.wX Φ c ρ fun s ρ1 => Wg.onB s fun t => Q t ρ1) (fun ρ E => w ρ E) E m ρ1, fun σ' H' h => ⟨m, Nat.lt_succ_self m, h⟩, Z, S2, ρ2, _, r2, q, ?_⟩
      have e12 := e1.trans e2
      exact ⟨fun σ' H' S' ρ' e3 r3 q3 => ⟨S', ρ', e12.trans e3, r3, q3⟩, fun v H' S' ρ' σ' d e3 r3 rv q3 => f.rt v H' S' ρ' σ' d (e12.trans e3) r3 rv q3, fun σ' H' S' ρ' e3 r3 q3 => f.nx σ' H' S' ρ' (e12.trans e3) r3 q3,
        fun σ' H' S' ρ' e3 r3 q3 => ⟨S', ρ', e12.trans e3, r3, q3⟩⟩
theorem snd_for {it : Wg.It} {tg iter : Expr} (g : Good T W Φ N X) (hi : PI X tg iter (tI W Φ it)) (hg : PG X tg (tT W Φ t)) (hb : PSs X st (tW W w)) (hp : plB iter = true) (hz : zipB it t = true) :
    PS X (.For tg iter st [] pos) (tW W fun ρ E => Wg.wI Φ it ρ fun items ρ1 => Wg.foW (fun x ρ E => Wg.wT Φ t (.sh x) ρ fun ρ' => w ρ' E) E items ρ1) := by
  have never : PassesOwn (model X.prog X.w) X.A X.env X.xe := by rw [g.xe]; exact PySem.PassesOwn.never
  refine PS.imp (ps_for never g.calm hi hg hb (folded_pl hp)) fun D σ H ⟨Z, S, ρ, E, r, hw, f⟩ => ?_
  refine ⟨Z, S, ρ, _, r, hw, fun J H1 S1 ρ1 items e1 r1 wk sm q => ?_⟩
  obtain ⟨G, Y, wlk, hG, hY⟩ := wk
  refine for_it wlk (fun i σ2 H2 => ∃ S2 ρ2, Ext Z S1 H1 S2 H2 ∧ R W Z S2 ρ2 σ2 H2 ∧ Wg.foW (fun x ρ E => Wg.wT Φ t (.sh x) ρ fun ρ' => w ρ' E) E (items.drop i) ρ2) ⟨S1, ρ1, .refl, r1, q⟩
    (fun i σ2 H2 _ ⟨S2, ρ2, e2, _⟩ => hG S2 H2 fun a ha => e2.s a ha) (fun i x σ2 H2 H3 hi ⟨S2, ρ2, e2, r2, q2⟩ y => ?_) (fun σ2 H2 ⟨S2, ρ2, e2, r2, q2⟩ => ?_)
  · rw [List.drop_eq_getElem_cons hi] at q2
    have q2 := (show Wg.wT Φ t (.sh items[i]) ρ2 _ from q2)
    have step : ∀ σ3 H4 S4 ρ4, Ext Z S2 H2 S4 H4 → R W Z S4 ρ4 σ3 H4 → w ρ4 ⟨Wg.foW (fun x ρ E => Wg.wT Φ t (.sh x) ρ fun ρ' => w ρ' E) E (items.drop (i + 1)), E.rt, E.nx, Wg.foW (fun x ρ E => Wg.wT Φ t (.sh x) ρ fun ρ' => w ρ' E) E (items.drop (i + 1))⟩ →
        tW W w { D with nx := fun σ2 H2 => ∃ S2 ρ2, Ext Z S1 H1 S2 H2 ∧ R W Z S2 ρ2 σ2 H2 ∧ Wg.foW (fun x ρ E => Wg.wT Φ t (.sh x) ρ fun ρ' => w ρ' E) E (items.drop (i + 1)) ρ2, ct := fun σ2 H2 => ∃ S2 ρ2, Ext Z S1 H1 S2 H2 ∧ R W Z S2 ρ2 σ2 H2 ∧ Wg.foW (fun x ρ E => Wg.wT Φ t (.sh x) ρ fun ρ' => w ρ' E) E (items.drop (i + 1)) ρ2, bk := D.nx } σ3 H4 := fun σ3 H4 S4 ρ4 e4 r4 q4 => by
      have e24 := e2.trans e4
      have e14 := e1.trans e24
      exact ⟨Z, S4, ρ4, _, r4, q4, ⟨fun σ' H' S' ρ' e3 r3 q3 => ⟨S', ρ', e24.trans e3, r3, q3⟩, fun v H' S' ρ' σ' d e3 r3 rv q3 => f.rt v H' S' ρ' σ' d (e14.trans e3) r3 rv q3,
        fun σ' H' S' ρ' e3 r3 q3 => f.nx σ' H' S' ρ' (e14.trans e3) r3 q3, fun σ' H' S' ρ' e3 r3 q3 => ⟨S', ρ', e24.trans e3, r3, q3⟩⟩⟩
    rcases hY S2 H2 i x H3 (fun a ha => e2.s a ha) hi y with ⟨rfl, d, hd2, rx⟩ | ⟨hz2, P, v1, w1, d, e', rfl, hP, rfl, hd2, rv1, rw1⟩
    · have : items[i] = d := by rw [List.getElem?_eq_getElem hi] at hd2; exact Option.some.inj hd2
      rw [this] at q2
      exact ⟨Z, S2, ρ2, .sh d, _, r2, .inl rx, q2, fun σ3 H4 S4 ρ4 e4 r4 _ q4 => step σ3 H4 S4 ρ4 e4 r4 q4⟩
    · have : items[i] = .tup [d, e'] := by rw [List.getElem?_eq_getElem hi] at hd2; exact Option.some.inj hd2
      rw [this] at q2
      have oP := r2.own_new hP
      have eP := Ext.upd (H := H2) oP (.tup [v1, w1])
      have rP := r2.upd oP (r2.noOwn_new hP) (.tup [v1, w1])
      exact ⟨Z, S2, ρ2, .sh (.tup [d, e']), _, rP, .inr ⟨zipB_tp hz hz2, P, [v1, w1], [d, e'], rfl, rfl, .inl (.inl upd_same), Reps.mono eP.s _ _ (.cons rv1 (.cons rw1 .nil))⟩, q2, fun σ3 H4 S4 ρ4 e4 r4 _ q4 => step σ3 H4 S4 ρ4 (eP.trans e4) r4 q4⟩
  · rw [List.drop_length] at q2
    exact f.nx σ2 H2 S2 ρ2 (e1.trans e2) r2 q2
end
end WgS
set_option Elab.async false
set_option linter.all false
set_option maxRecDepth 100000
set_option maxHeartbeats 1000000
/-! WgS: tuple(range(..)), sorted(set(..)). -/
namespace WgS
open PySem PySem.Spec PyProof.Rows L2
open Wg (D Slot Opd Ex Exs Tg Tgs Kvs Sts BOp COp Blt Mth LB)
section
variable {T : Tab} {X : Cx} {W : Wd} {Φ : Wg.Ctx} {N : List Str} {e z : Expr} {pos np np2 pos2 : Pos} {a : Ex} {es : Exs} {xs : List Expr}
/-! ### a range, made a tuple or a list -/
def tRgO (W : Wd) (Φ : Wg.Ctx) (es : Exs) : L2.St → Hp → (Int → Int → Hp → Prop) → Prop := fun σ H Q => ∃ Z S ρ, ∃ Qr : List D → Wg.Env → Prop, R W Z S ρ σ H ∧ (Wg.wOs Φ es ρ fun os ρ1 => Wg.gets ρ1 os fun ds => Wg.rngV ds fun l => Qr l ρ1) ∧
  ∀ i j H' S' ρ', Ext Z S H S' H' → R W Z S' ρ' σ H' → RgOk i j → Qr (Wg.rangeD i j) ρ' → Q i j H'
theorem rgOk_of {i j : Int} (h1 : -1000000 ≤ i) (h2 : i ≤ 1000000) (h3 : -1000000 ≤ j) (h4 : j ≤ 1000000) : RgOk i j := ⟨by omega, by omega, by omega, by omega, by omega⟩
theorem prgO1 {x : Expr} {b : Ex} (g : Good T W Φ N X) (hg : Gl X "range") (ha : PE X x (tO W Φ b)) (hp : plB x = true) : PRg X (.Call (.Name "range" np) [x] [] pos) (tRgO W Φ (.c b .n)) := by
  intro pins s σ H Q I ⟨Z, S, ρ, Qr, r, hw, k⟩
  refine prg_1 hg g.rng ha (star_pl hp) pins s σ H Q I ?_
  unfold Wg.wOs at hw
  refine ⟨Z, S, ρ, _, r, hw, fun v H1 S1 ρ1 o e1 r1 rv q => ?_⟩
  unfold Wg.wOs at q
  dsimp only at q
  obtain ⟨ds, q, rd⟩ := RepOs.get r1 (.cons rv .nil) q
  have hl := rd.length
  unfold Wg.rngV at q
  split at q
  · rename_i j
    obtain ⟨q1, q2, q3⟩ := q
    unfold LB at q1
    have ev := rd.int1
    cases ev
    exact ⟨j, rfl, k 0 j H1 S1 ρ1 e1 r1 (rgOk_of (by omega) (by omega) q2 q1) q3⟩
  · cases hl
  · exact q.elim
theorem prgO2 {x y : Expr} {b c : Ex} (g : Good T W Φ N X) (hg : Gl X "range") (ha : PE X x (tO W Φ b)) (hb : PE X y (tO W Φ c)) (hp : plB x = true) (hp2 : plB y = true) : PRg X (.Call (.Name "range" np) [x, y] [] pos) (tRgO W Φ (.c b (.c c .n))) := by
  intro pins s σ H Q I ⟨Z, S, ρ, Qr, r, hw, k⟩
  refine prg_2 hg g.rng ha hb (star_pl hp) (star_pl hp2) (plAll_star (by simp [hp2]) pos).2 pins s σ H Q I ?_
  unfold Wg.wOs at hw
  refine ⟨Z, S, ρ, _, r, hw, fun v H1 S1 ρ1 o e1 r1 rv q => ?_⟩
  unfold Wg.wOs at q
  refine ⟨Z, S1, ρ1, _, r1, q, fun v2 H2 S2 ρ2 o2 e2 r2 rv2 q => ?_⟩
  unfold Wg.wOs at q
  dsimp only at q
  obtain ⟨ds, q, rd⟩ := RepOs.get r2 (.cons (RepO.ext e2 rv) (.cons rv2 .nil)) q
  have hl := rd.length
  unfold Wg.rngV at q
  split at q
  · cases hl
  · rename_i i j
    obtain ⟨q1, q2, q3, q4, q5⟩ := q
    unfold LB at q1 q3
    have ev := rd.int2
    cases ev
    exact ⟨i, j, rfl, rfl, k i j H2 S2 ρ2 (e1.trans e2) r2 (rgOk_of q2 q3 q4 q1) q5⟩
  · exact q.elim
theorem pe_tupRgF {te : L2.St → Hp → (Int → Int → Hp → Prop) → Prop} {p pos : Pos} (hc : X.calm = true) (hg : Gl X "tuple") (hm : X.mg "tuple" = none) (he : PRg X e te) (na : starEach [e] X.env = (false, eval e X.env) :: starEach [] X.env) :
    PE X (.Call (.Name "tuple" p) [e] [] pos) (fun σ H Q => te σ H fun a b H1 => RgOk a b ∧ ∀ q ob, ob.dict = none → H1 q = none → Q (.ref q) (upd H1 q (.frz ob (.tup (rgV a b))))) := by
  refine ⟨fun pins s σ H Q I h => ?_⟩
  refine Call_ (ld_blt I hg hm boot_tuple (PyProof.Rows.callWith_type1 (args_cons (thn (he pins s σ H _ I h) fun x s1 ⟨r, a, b, t, u, v, H1, ex, hr, I1, ok, q⟩ => args_nil ?_) na) na rfl))
  subst ex
  obtain ⟨b1, b2, b3, b4, b5⟩ := ok
  refine call_tuple_range (n := (b - a).toNat) (I1.ok.hd hc) hr (small_one b1 b2 b3 b4) (rangeSize_nat a b) b5 fun h' tk acc hk hi => ?_
  have I2 : Inv X pins σ H1 { s1 with heap := h', toks := tk } := I1.kept hk
  have I3 := laidT (t' := tk) (its := acc.toList) I2 (vals_rg hi) (by rw [rgV_length, sizeLine_eq]; omega)
  rw [Array.toArray_toList] at I3
  exact ⟨.ref h'.objs.size, _, I3, rfl, q _ _ rfl (I2.hok.fresh (Nat.le_refl _))⟩
theorem reps_rg {S : AS} {H : Hp} (i j : Int) : Reps W S H (rgV i j) (Wg.rangeD i j) := by
  unfold rgV Wg.rangeD
  induction List.range (j - i).toNat with
  | nil => exact .nil
  | cons k l ih => exact .cons (.int _) ih
theorem snd_rngT (g : Good T W Φ N X) (hg : Gl X "tuple") (hm : X.mg "tuple" = none) (he : PRg X e (tRgO W Φ es)) (hp : plB e = true) : PE X (.Call (.Name "tuple" np) [e] [] pos) (tX W Φ (.rng true es)) := by
  refine PE.imp (pe_tupRgF g.calm hg hm he (star_pl hp)) fun σ H Q ⟨Z, S, ρ, Qs, r, hw, k⟩ => ?_
  unfold Wg.wX at hw
  refine ⟨Z, S, ρ, fun l ρ1 => Qs (.sh (.tup l)) ρ1, r, hw, fun i j H1 S1 ρ1 e1 r1 ok q => ⟨ok, fun p ob hd hp => ?_⟩⟩
  exact Res.tup (Q := Q) (Qs := fun s => Qs s ρ1) (fun v H' S' s e2 r2 rv q => k v H' S' ρ1 s (e1.trans e2) r2 rv q) r1 hd hp (reps_rg i j) q
theorem snd_rngL (g : Good T W Φ N X) (hg : Gl X "list") (hm : X.mg "list" = none) (he : PRg X e (tRgO W Φ es)) (hp : plB e = true) : PE X (.Call (.Name "list" np) [e] [] pos) (tX W Φ (.rng false es)) := by
  refine PE.imp (pe_listRg g.calm hg hm he (star_pl hp)) fun σ H Q ⟨Z, S, ρ, Qs, r, hw, k⟩ => ?_
  unfold Wg.wX at hw
  refine ⟨Z, S, ρ, fun l ρ1 => Qs (.ol l) ρ1, r, hw, fun i j H1 S1 ρ1 e1 r1 ok q => ⟨ok, fun p hp => ?_⟩⟩
  exact Res.lst (Q := Q) (Qs := fun s => Qs s ρ1) (fun v H' S' s e2 r2 rv q => k v H' S' ρ1 s (e1.trans e2) r2 rv q) r1 hp (reps_rg i j) q
/-! ### sorted(set(tuple of ints)) -/
theorem pe_sortedSetT {z : Expr} {ta : TE} {p p2 q pos : Pos} (hc : X.calm = true) (hg : Gl X "sorted") (hm : X.mg "sorted" = none) (hg2 : Gl X "set") (hm2 : X.mg "set" = none) (ha : PE X z ta) (na : starEach [z] X.env = (false, eval z X.env) :: starEach [] X.env) :
    PE X (.Call (.Name "sorted" p) [.Call (.Name "set" p2) [z] [] q] [] pos) (fun σ H Q => ta σ H fun x H1 => ∃ (l : Addr) (ns : List Int), x = V.ref l ∧ SqT X.K H1 l (ns.map V.int) ∧ ns.length < 64 ∧ ∀ p, H1 p = none → Q (.ref p) (upd H1 p (.lst ((Wg.sortSet ns).map V.int)))) := by
  refine ⟨fun pins s σ H Q I h => ?_⟩
  refine Call_ (ld_blt I hg hm (show bootBuiltins "sorted" = some (.builtin "sorted") by kernel_rfl) ?_)
  refine PyProof.Rows.callWith_builtin1 (PyProof.Rows.args_cons ?_ rfl) rfl rfl
  refine Call_ (ld_blt I hg2 hm2 PyProof.Rows.boot_set ?_)
  refine PyProof.Rows.callWith_type1 (PyProof.Rows.args_cons (thn (ha.run pins s σ H _ I h) fun v s1 ⟨x, H1, I1, r1, q1⟩ => PyProof.Rows.args_nil ?_) na) na rfl
  obtain ⟨l, ns, rfl, hq, h1, q1⟩ := q1
  cases r1
  obtain ⟨its, r, pl, hz⟩ := I1.tuple hq
  refine call_set_tupI ns (I1.ok.hd hc) (show s1.heap.IsTuple l its.toArray from pl) (by simpa using ints_of_vals r) (by unfold scanBound; omega) fun h' tk c hS hcl hk => ?_
  refine PyProof.Rows.args_nil ?_
  refine sorted_set (s := { s1 with heap := h', toks := tk }) hS (I1.ok.hd hc) (by omega) fun s' p out c' ms k gg o hp hgp hi hs hmem hl => ?_
  have em : ms = Wg.sortSet ns := Wg.sorted_uniq hs (Wg.sorted_sortSet ns) fun j => by rw [hmem j, Wg.mem_sortSet]; simp
  subst em
  have hlt : s1.heap.objs.size ≤ p := by
    obtain ⟨ob, _, _, _, ho, _⟩ := hS
    exact Nat.le_trans (Nat.le_of_lt (Heap.lt_size ho)) hp
  have hn : H1 p = none := I1.hok.fresh hlt
  have kk : ∀ b o, s1.heap.get? b = some o → s'.heap.get? b = some o := fun b o e => k b o (hk b o e)
  have hlen : ((Wg.sortSet ns).map V.int).length ≤ sizeLine := by rw [List.length_map, hl, sizeLine_eq]; omega
  exact ⟨.ref p, upd H1 p (.lst ((Wg.sortSet ns).map V.int)), I1.call' (ch := []) o (Un.laid kk hlt hn) (I1.hok.laid kk hlt (show ObjOk X.prog X.w _ _ _ (.lst _) from ⟨hlen, out.toList, c', vals_of_ints hi, hgp⟩)) (by rw [gg]; exact I1.bare) (fun _ z => nomatch z), rfl, q1 p hn⟩
theorem snd_sset (g : Good T W Φ N X) (hg : Gl X "sorted") (hm : X.mg "sorted" = none) (hg2 : Gl X "set") (ha : PE X z (tO W Φ a)) (hp : plB z = true) :
    PE X (.Call (.Name "sorted" np) [.Call (.Name "set" np2) [z] [] pos2] [] pos) (tX W Φ (.blt .sortedSet (.c a .n))) := by
  refine PE.imp (pe_sortedSetT g.calm hg hm hg2 g.st ha (star_pl hp)) fun σ H Q ⟨Z, S, ρ, Qs, r, hw, k⟩ => ?_
  unfold Wg.wX at hw
  unfold Wg.wOs at hw
  refine ⟨Z, S, ρ, _, r, hw, fun v H1 S1 ρ1 o e1 r1 rv q => ?_⟩
  unfold Wg.wOs at q
  dsimp only at q
  obtain ⟨ds, q, rd⟩ := RepOs.get r1 (.cons rv .nil) q
  cases rd with
  | cons h1 t =>
    cases t
    rename_i d
    cases d with
    | tup l =>
      have q : Wg.sisL l fun ns => Qs (.ol (ns.map .int)) ρ1 := q
      unfold Wg.sisL at q
      split at q
      · rename_i ns en
        obtain ⟨p, ys, rfl, sq, rs⟩ := Rep.tupv h1
        have ey := ints_of en rs
        subst ey
        exact ⟨p, ns, rfl, g.hK ▸ sq, q.1, fun p hp => Res.lst (Q := Q) (Qs := fun s => Qs s ρ1) (fun v H' S' s e2 r2 rv q => k v H' S' ρ1 s (e1.trans e2) r2 rv q) r1 hp (Reps.ints _) q.2⟩
      · exact q.elim
    | _ => exact (show False from q).elim
end
end WgS
set_option Elab.async false
set_option linter.all false
set_option maxRecDepth 100000
set_option maxHeartbeats 4000000
/-! WgS: what the checker accepts does what Wg says. -/
namespace WgS
open PySem PySem.Spec PyProof.Rows L2
open Wg (D Slot Opd Ex Exs Tg Tgs Kvs Sts BOp COp Blt Mth LB)
theorem visB_ok {sc : Scope} {x : Str} (h : visB sc x = true) : Vis sc x ∧ (x == ("__debug__" : Str)) = false ∧ (x == ("__classdict__" : Str)) = false := by
  unfold visB at h
  simp only [Bool.and_eq_true, Bool.not_eq_true'] at h
  obtain ⟨⟨h1, h2⟩, h3⟩ := h
  refine ⟨?_, h2, h3⟩
  split at h1
  · exact .inl (by assumption)
  · exact .inr (.inl (by assumption))
  · exact .inr (.inr (by assumption))
  · cases h1
theorem glB_ok {sc : Scope} {x : Str} (h : glB sc x = true) : sc.names.lookup x = some .globalImplicit ∧ (x == ("__debug__" : Str)) = false ∧ x ≠ ("__name__" : Str) := by
  unfold glB at h
  simp only [Bool.and_eq_true, Bool.not_eq_true'] at h
  obtain ⟨⟨h1, h2⟩, h3⟩ := h
  refine ⟨?_, h2, by simpa using h3⟩
  split at h1
  · assumption
  · cases h1
theorem locB_ok {sc : Scope} {fnb : Str → Bool} {x : Str} (h : locB sc fnb x = true) : Loc sc x ∧ (fnb x = true ∨ sc.names.lookup x = some .local) := by
  unfold locB at h
  split at h
  · rename_i q; exact ⟨.inl q, .inr q⟩
  · rename_i q; exact ⟨.inr q, .inl h⟩
  · cases h
theorem chkX_pl {T : Tab} {N : List Str} {e : Ex} {sc : Scope} {x : Expr} (h : chkX T N e sc x = true) : plB x = true := by
  cases x <;> first | rfl | (exfalso; cases e <;> unfold chkX at h <;> (repeat' split at h) <;> first | contradiction | (simp [chkLit] at h; done))
section
variable {T : Tab} {W : Wd} {Φ : Wg.Ctx} {N : List Str}
theorem snd_name {X : Cx} {i : Nat} {x : Str} {p : Pos} (g : Good T W Φ N X) (h : nameB N X.env.scope i x = true) : PE X (.Name x p) (tVar i) := by
  unfold nameB at h
  simp only [Bool.and_eq_true, decide_eq_true_eq] at h
  obtain ⟨h1, h2, h3⟩ := And.intro h.1 (visB_ok h.2)
  exact pe_var (g.hN ▸ h1) h2 h3.1 h3.2
theorem snd_cst {X : Cx} {d : D} {ex : Expr} (h : chkLit d ex = true) : PE X ex (tX W Φ (.lit d)) ∧ PT X ex (tBl W Φ (.lit d)) := by
  unfold chkLit at h
  split at h
  · rename_i k p
    have q : PE X (.Constant .none k p) (tX W Φ (.lit .non)) := snd_lit pe_non fun S H => .non
    exact ⟨q, snd_val q fun _ => rfl⟩
  · rename_i b c k p
    have e : b = c := by simpa using h
    subst e
    have q : PE X (.Constant (.bool b) k p) (tX W Φ (.lit (.bl b))) := snd_lit pe_bl fun S H => .bl b
    exact ⟨q, snd_val q fun _ => rfl⟩
  · rename_i i j k p
    have e : i = j := by simpa using h
    subst e
    have q : PE X (.Constant (.int i) k p) (tX W Φ (.lit (.int i))) := snd_lit pe_int fun S H => .int i
    exact ⟨q, snd_val q fun _ => rfl⟩
  · rename_i s z k p
    have e : z = ⟨s.toArray⟩ := by simpa using h
    subst e
    have q : PE X (.Constant (.str ⟨s.toArray⟩) k p) (tX W Φ (.lit (.str s))) := snd_lit pe_str fun S H => .str s
    exact ⟨q, snd_val q fun _ => rfl⟩
  · cases h
theorem both {X : Cx} {e : Ex} {ex : Expr} (q : PE X ex (tX W Φ e)) (he : ∀ whole, isTrue ex X.env whole = (do let v ← whole; standAt ex.pos; holding [v] (truthy v))) : PE X ex (tX W Φ e) ∧ PT X ex (tBl W Φ e) := ⟨q, snd_val q he⟩
/-- a subexpression as an operand -/
theorem opd_of {X : Cx} {e : Ex} {sc : Scope} {ex : Expr} (g : Good T W Φ N X) (hs : X.env.scope = sc) (h : chkX T N e sc ex = true) (p : PE X ex (tX W Φ e)) : PE X ex (tO W Φ e) := by
  refine snd_O p fun i ei => ?_
  subst ei
  unfold chkX at h
  split at h
  · exact snd_name g (hs ▸ h)
  · cases h
mutual
theorem snd_X : ∀ (e : Ex) (sc : Scope) (ex : Expr) (X : Cx), chkX T N e sc ex = true → Good T W Φ N X → X.env.scope = sc → PE X ex (tX W Φ e) ∧ PT X ex (tBl W Φ e)
  | .lit d, sc, ex, X, h, g, hs => by
    unfold chkX at h
    exact snd_cst h
  | .var i, sc, ex, X, h, g, hs => by
    unfold chkX at h
    split at h
    · rename_i x p
      exact both (snd_var (W := W) (Φ := Φ) (snd_name (p := p) g (hs ▸ h))) fun _ => rfl
    · cases h
  | .glb k, sc, ex, X, h, g, hs => by
    unfold chkX at h
    split at h
    · rename_i x p
      unfold gnB at h
      simp only [Bool.and_eq_true, decide_eq_true_eq] at h
      obtain ⟨h1, h2, _⟩ := glB_ok h.2
      obtain ⟨v, u, d, hm, hr, hd, hv⟩ := g.con k x h.1
      exact both (snd_glb (W := W) (Φ := Φ) (g := k) (pe_glob (pos := p) (by show X.env.scope.names.lookup x = _; rw [hs]; exact h1) hm hr h2) hd hv) fun _ => rfl
    · cases h
  | .bin o a b, sc, ex, X, h, g, hs => by
    unfold chkX at h
    split at h
    · simp only [Bool.and_eq_true, decide_eq_true_eq] at h
      obtain ⟨⟨rfl, h1⟩, h2⟩ := h
      exact both (snd_bin (W := W) (Φ := Φ) g.hK (o := o) (opd_of g hs h1 (snd_X a sc _ X h1 g hs).1) (opd_of g hs h2 (snd_X b sc _ X h2 g hs).1)) fun _ => rfl
    · cases h
  | .neg a, sc, ex, X, h, g, hs => by
    unfold chkX at h
    split at h
    · exact both (snd_neg (W := W) (Φ := Φ) (snd_X a sc _ X h g hs).1) fun _ => rfl
    · cases h
  | .not a, sc, ex, X, h, g, hs => by
    unfold chkX at h
    split at h
    · exact ⟨snd_not (snd_X a sc _ X h g hs).1, snd_notT (snd_X a sc _ X h g hs).2⟩
    · cases h
  | .cmp o a b, sc, ex, X, h, g, hs => by
    unfold chkX at h
    split at h
    · simp only [Bool.and_eq_true, decide_eq_true_eq] at h
      obtain ⟨⟨rfl, h1⟩, h2⟩ := h
      exact snd_cmp g.hK g.hu (opd_of g hs h1 (snd_X a sc _ X h1 g hs).1) (opd_of g hs h2 (snd_X b sc _ X h2 g hs).1) (chkX_pl h2)
    · cases h
  | .chn o1 o2 a b c, sc, ex, X, h, g, hs => by
    unfold chkX at h
    split at h
    · simp only [Bool.and_eq_true, decide_eq_true_eq] at h
      obtain ⟨⟨⟨⟨rfl, rfl⟩, h1⟩, h2⟩, h3⟩ := h
      exact snd_chn g.hK g.hu (opd_of g hs h1 (snd_X a sc _ X h1 g hs).1) (opd_of g hs h2 (snd_X b sc _ X h2 g hs).1) (opd_of g hs h3 (snd_X c sc _ X h3 g hs).1) (chkX_pl h3)
    · cases h
  | .and a b, sc, ex, X, h, g, hs => by
    unfold chkX at h
    split at h
    · simp only [Bool.and_eq_true] at h
      have qa := snd_X a sc _ X h.1 g hs
      have qb := snd_X b sc _ X h.2 g hs
      exact snd_and1 qa.1 qa.2 qb.1 qb.2
    · simp only [Bool.and_eq_true] at h
      have qa := snd_X a sc _ X h.1 g hs
      have qb := snd_X b sc _ X h.2 g hs
      exact snd_and2 qa.1 qa.2 qb.1 qb.2
    · cases h
  | .or a b, sc, ex, X, h, g, hs => by
    unfold chkX at h
    split at h
    · simp only [Bool.and_eq_true] at h
      have qa := snd_X a sc _ X h.1 g hs
      have qb := snd_X b sc _ X h.2 g hs
      exact snd_or1 qa.1 qa.2 qb.1 qb.2
    · simp only [Bool.and_eq_true] at h
      have qa := snd_X a sc _ X h.1 g hs
      have qb := snd_X b sc _ X h.2 g hs
      exact snd_or2 qa.1 qa.2 qb.1 qb.2
    · cases h
  | .ife c a b, sc, ex, X, h, g, hs => by
    unfold chkX at h
    split at h
    · simp only [Bool.and_eq_true] at h
      have qc := snd_X c sc _ X h.1.1 g hs
      have qa := snd_X a sc _ X h.1.2 g hs
      have qb := snd_X b sc _ X h.2 g hs
      exact snd_ife qc.2 qa.1 qa.2 qb.1 qb.2
    · cases h
  | .tup es, sc, ex, X, h, g, hs => by
    unfold chkX at h
    split at h
    · simp only [Bool.and_eq_true, decide_eq_true_eq] at h
      exact both (snd_tup (W := W) (Φ := Φ) h.1 (snd_Xs es sc _ X h.2 g hs).2.1) fun _ => rfl
    · cases h
  | .lst es, sc, ex, X, h, g, hs => by
    unfold chkX at h
    split at h
    · simp only [Bool.and_eq_true, decide_eq_true_eq] at h
      exact both (snd_lst (W := W) (Φ := Φ) h.1 (snd_Xs es sc _ X h.2 g hs).2.1) fun _ => rfl
    · cases h
  | .dct _, sc, ex, X, h, g, hs => by unfold chkX at h; cases h
  | .idx a i, sc, ex, X, h, g, hs => by
    unfold chkX at h
    split at h
    · simp only [Bool.and_eq_true] at h
      exact both (snd_idx (W := W) (Φ := Φ) g.hK (opd_of g hs h.1 (snd_X a sc _ X h.1 g hs).1) (opd_of g hs h.2 (snd_X i sc _ X h.2 g hs).1) (chkX_pl h.2)) fun _ => rfl
    · cases h
  | .slc a lo hi, sc, ex, X, h, g, hs => by
    unfold chkX at h
    split at h
    · rename_i x l u p2 p
      simp only [Bool.and_eq_true] at h
      have ql : PO X l (tPrt W Φ lo) := by
        obtain ⟨⟨_, h⟩, _⟩ := h
        cases l with
        | none => dsimp only at h; split at h <;> first | exact snd_prt0 | cases h
        | some l' =>
          refine snd_prt1 (fun q => ?_) (snd_X lo sc _ X h g hs).1
          subst q
          simp [chkX] at h
      have qh : PO X u (tPrt W Φ hi) := by
        obtain ⟨_, h⟩ := h
        cases u with
        | none => dsimp only at h; split at h <;> first | exact snd_prt0 | cases h
        | some l' =>
          refine snd_prt1 (fun q => ?_) (snd_X hi sc _ X h g hs).1
          subst q
          simp [chkX] at h
      exact both (snd_slc (pos := p) (p2 := p2) g.hK (opd_of g hs h.1.1 (snd_X a sc _ X h.1.1 g hs).1) ql qh) fun _ => rfl
    · cases h
  | .rev _, sc, ex, X, h, g, hs => by unfold chkX at h; cases h
  | .noPart, sc, ex, X, h, g, hs => by unfold chkX at h; cases h
  | .call f es, sc, ex, X, h, g, hs => by
    unfold chkX at h
    split at h
    · rename_i x p xs p2
      simp only [Bool.and_eq_true, gnB, decide_eq_true_eq] at h
      obtain ⟨⟨h1, h2⟩, h3⟩ := h
      obtain ⟨g1, g2, _⟩ := glB_ok h2
      obtain ⟨q1, _, q3, q4⟩ := snd_Xs es sc _ X h3 g hs
      exact both (snd_call (np := p) (pos := p2) g h1 (by show X.env.scope.names.lookup x = _; rw [hs]; exact g1) g2 q1 q3 fun e => by
        subst e
        cases es with
        | n => rfl
        | c e es => cases q4) fun _ => rfl
    · cases h
  | .callv _ _, sc, ex, X, h, g, hs => by unfold chkX at h; cases h
  | .blt b es, sc, ex, X, h, g, hs => by
    unfold chkX at h
    split at h
    · rename_i a
      split at h
      · rename_i x p y p2 z p3 p4
        simp only [Bool.and_eq_true, gnB, decide_eq_true_eq] at h
        obtain ⟨⟨⟨h1, h2⟩, ⟨h3, h4⟩⟩, h5⟩ := h
        cases h1
        cases h3
        obtain ⟨g1, _⟩ := glB_ok h2
        obtain ⟨g2, _⟩ := glB_ok h4
        exact both (snd_sset g (by show X.env.scope.names.lookup _ = _; rw [hs]; exact g1) (g.blt .sorted _ rfl) (by show X.env.scope.names.lookup _ = _; rw [hs]; exact g2) (opd_of g hs h5 (snd_X a sc _ X h5 g hs).1) (chkX_pl h5)) fun _ => rfl
      · cases h
    · split at h
      · rename_i x p xs p2
        simp only [Bool.and_eq_true, gnB, decide_eq_true_eq] at h
        obtain ⟨⟨⟨h1, h2⟩, h4⟩, h3⟩ := h
        obtain ⟨g1, g2, g3⟩ := glB_ok h2
        obtain ⟨q1, _, q3, q4⟩ := snd_Xs es sc _ X h3 g hs
        cases xs with
        | nil => cases h4
        | cons e xs =>
          exact both (snd_blt (np := p) (pos := p2) g h1 (by show X.env.scope.names.lookup x = _; rw [hs]; exact g1) g2 g3 q1 q3) fun _ => rfl
      · cases h
  | .rng t es, sc, ex, X, h, g, hs => by
    unfold chkX at h
    split at h
    · rename_i x p y p2 ys p3 p4
      simp only [Bool.and_eq_true, gnB, decide_eq_true_eq, Bool.or_eq_true, beq_iff_eq] at h
      obtain ⟨⟨⟨⟨h1, h2⟩, ⟨h3, h4⟩⟩, h5⟩, h6⟩ := h
      cases h3
      obtain ⟨g1, _⟩ := glB_ok h2
      obtain ⟨g2, _⟩ := glB_ok h4
      have hg2 : Gl X "range" := by show X.env.scope.names.lookup _ = _; rw [hs]; exact g2
      have prg : PRg X (.Call (.Name "range" p2) ys [] p3) (tRgO W Φ es) := by
        cases es with
        | n => rcases h6 with h6 | h6 <;> cases h6
        | c a es =>
          cases ys with
          | nil => unfold chkXs at h5; cases h5
          | cons y1 ys =>
            have h5 : (chkX T N a sc y1 && chkXs T N es sc ys) = true := by unfold chkXs at h5; exact h5
            simp only [Bool.and_eq_true] at h5
            have qa := opd_of g hs h5.1 (snd_X a sc _ X h5.1 g hs).1
            cases es with
            | n =>
              cases ys with
              | nil => exact prgO1 g hg2 qa (chkX_pl h5.1)
              | cons y2 ys => have h7 := h5.2; unfold chkXs at h7; cases h7
            | c b es =>
              cases ys with
              | nil => have h7 := h5.2; unfold chkXs at h7; cases h7
              | cons y2 ys =>
                have h7 : (chkX T N b sc y2 && chkXs T N es sc ys) = true := by have h7 := h5.2; unfold chkXs at h7; exact h7
                simp only [Bool.and_eq_true] at h7
                have qb := opd_of g hs h7.1 (snd_X b sc _ X h7.1 g hs).1
                cases es with
                | n =>
                  cases ys with
                  | nil => exact prgO2 g hg2 qa qb (chkX_pl h5.1) (chkX_pl h7.1)
                  | cons y3 ys => have h8 := h7.2; unfold chkXs at h8; cases h8
                | c d es => rcases h6 with h6 | h6 <;> simp [Wg.Exs.len] at h6
      cases t with
      | true =>
        cases h1
        exact both (snd_rngT g (by show X.env.scope.names.lookup _ = _; rw [hs]; exact g1) (g.blt .tuple _ rfl) prg rfl) fun _ => rfl
      | false =>
        cases h1
        exact both (snd_rngL g (by show X.env.scope.names.lookup _ = _; rw [hs]; exact g1) (g.blt .list _ rfl) prg rfl) fun _ => rfl
    · cases h
  | .mth m o es, sc, ex, X, h, g, hs => by
    unfold chkX at h
    split at h
    · rename_i k a
      split at h
      · rename_i x np nm ap y cp
        simp only [Bool.and_eq_true, decide_eq_true_eq] at h
        obtain ⟨⟨⟨rfl, h1⟩, h2⟩, h3⟩ := h
        exact both (snd_append (W := W) (Φ := Φ) (snd_name (p := np) g (hs ▸ h2)) (snd_X a sc _ X h3 g hs).1 (chkX_pl h3) rfl h1) fun _ => rfl
      · cases h
    · rename_i k a
      split at h
      · rename_i x np nm ap y cp
        simp only [Bool.and_eq_true, decide_eq_true_eq] at h
        obtain ⟨⟨⟨rfl, h1⟩, h2⟩, h3⟩ := h
        exact both (snd_extend (W := W) (Φ := Φ) (snd_name (p := np) g (hs ▸ h2)) (snd_X a sc _ X h3 g hs).1 (chkX_pl h3) rfl h1) fun _ => rfl
      · cases h
    · rename_i k
      split at h
      · rename_i x np nm ap cp
        simp only [Bool.and_eq_true, decide_eq_true_eq] at h
        obtain ⟨⟨rfl, h1⟩, h2⟩ := h
        exact both (snd_pop (W := W) (Φ := Φ) (snd_name (p := np) g (hs ▸ h2)) rfl h1) fun _ => rfl
      · cases h
    · split at h
      · rename_i x nm ap y ys cp
        simp only [Bool.and_eq_true, decide_eq_true_eq] at h
        obtain ⟨⟨⟨⟨⟨rfl, h1⟩, h2⟩, h3⟩, h4⟩, h5⟩ := h
        obtain ⟨q1, _, q3, q4⟩ := snd_Xs es sc _ X h4 g hs
        exact both (snd_index g (opd_of g hs h3 (snd_X o sc _ X h3 g hs).1) q1 q3 h5 h2 h1) fun _ => rfl
      · cases h
    · split at h
      · rename_i x nm ap y ys cp
        simp only [Bool.and_eq_true, decide_eq_true_eq] at h
        obtain ⟨⟨⟨⟨⟨rfl, h1⟩, h2⟩, h3⟩, h4⟩, h5⟩ := h
        obtain ⟨q1, _, q3, q4⟩ := snd_Xs es sc _ X h4 g hs
        exact both (snd_count g (opd_of g hs h3 (snd_X o sc _ X h3 g hs).1) q1 q3 h5 h2 h1) fun _ => rfl
      · cases h
    · cases h
  | .lc own elt t it c, sc, ex, X, h, g, hs => by
    unfold chkX at h
    split at h
    · rename_i x tg iter ifs scope p
      simp only [Bool.and_eq_true] at h
      obtain ⟨⟨⟨⟨⟨⟨⟨h1, h2⟩, h3⟩, hk⟩, h4⟩, h5⟩, h6⟩, h7⟩ := h
      have hk : ∀ i ∈ own, W.keep i = none := fun i hi => g.kp i (by simpa using List.all_eq_true.mp hk i hi)
      obtain ⟨qi, pi⟩ := snd_I it sc iter X tg h4 g hs (fun z => by
        obtain ⟨ts, rfl⟩ := zipB_tp h3 z
        unfold chkT at h5
        split at h5
        · exact ⟨_, _, _, rfl⟩
        · cases h5)
      have hsc : ∀ cl C, (compEnvC scope cl C X.env).scope = relS scope sc := fun cl C => by rw [← hs]; rfl
      exact both (snd_lc (pos := p) g qi (blkOk_by (by rw [g.hN, hs]; exact h1)) (fun s H C cl fp => (snd_T t _ _ tg _ h5 (g.blk s H scope C cl fp) (hsc cl C) rfl).1)
        (fun s H C cl fp => snd_Cs c _ ifs _ h6 (g.blk s H scope C cl fp) (hsc cl C)) (fun s H C cl fp => (snd_X elt _ x _ h7 (g.blk s H scope C cl fp) (hsc cl C)).1) pi hk h2 h3) fun _ => rfl
    · cases h
  | .dc _ _ _ _ _ _, sc, ex, X, h, g, hs => by unfold chkX at h; cases h
  | .lam _ _, sc, ex, X, h, g, hs => by unfold chkX at h; cases h
  | .minKey _ _ _ _, sc, ex, X, h, g, hs => by unfold chkX at h; cases h
theorem snd_Xs : ∀ (es : Exs) (sc : Scope) (xs : List Expr) (X : Cx), chkXs T N es sc xs = true → Good T W Φ N X → X.env.scope = sc → PA X xs (tOs W Φ es) ∧ PA X xs (tVs W Φ es) ∧ xs.all plB = true ∧ xs.length = es.len
  | .n, sc, xs, X, h, g, hs => by
    unfold chkXs at h
    split at h
    · exact ⟨snd_Os0, snd_Vs0, rfl, rfl⟩
    · cases h
  | .c e es, sc, xs, X, h, g, hs => by
    unfold chkXs at h
    split at h
    · simp only [Bool.and_eq_true] at h
      have q := (snd_X e sc _ X h.1 g hs).1
      obtain ⟨q1, q2, q3, q4⟩ := snd_Xs es sc _ X h.2 g hs
      have p := chkX_pl h.1
      exact ⟨snd_Os1 (opd_of g hs h.1 q) q1 p, snd_Vs1 q q2 p, by simp [p, q3], by rw [List.length_cons, q4]; rfl⟩
    · cases h
theorem snd_Cs : ∀ (es : Exs) (sc : Scope) (xs : List Expr) (X : Cx), chkCs T N es sc xs = true → Good T W Φ N X → X.env.scope = sc → PTs X xs (tCs W Φ es)
  | .n, sc, xs, X, h, g, hs => by
    unfold chkCs at h
    split at h
    · exact snd_Cs0
    · cases h
  | .c e .n, sc, xs, X, h, g, hs => by
    unfold chkCs at h
    split at h
    · exact snd_Cs1 (snd_X e sc _ X h g hs).2
    · cases h
  | .c e (.c _ _), sc, xs, X, h, g, hs => by
    unfold chkCs at h
    cases h
theorem snd_I : ∀ (it : Wg.It) (sc : Scope) (ex : Expr) (X : Cx) (tg : Expr), chkI T N it sc ex = true → Good T W Φ N X → X.env.scope = sc → (isZip it → ∃ elts kk p, tg = .Tuple elts kk p) → PI X tg ex (tI W Φ it) ∧ plB ex = true
  | .e a, sc, ex, X, tg, h, g, hs, hz => by
    unfold chkI at h
    exact ⟨snd_Ie g.hK (snd_X a sc _ X h g hs).1, chkX_pl h⟩
  | .range es, sc, ex, X, tg, h, g, hs, hz => by
    unfold chkI at h
    split at h
    · rename_i x np a p
      simp only [Bool.and_eq_true, gnB, decide_eq_true_eq] at h
      obtain ⟨⟨h1, h2⟩, h3⟩ := h
      cases h1
      obtain ⟨g1, _⟩ := glB_ok h2
      obtain ⟨q1, _, q3, q4⟩ := snd_Xs es sc _ X h3 g hs
      exact ⟨snd_Ir1 g (by show X.env.scope.names.lookup _ = _; rw [hs]; exact g1) q1 q4.symm (by simpa using q3), rfl⟩
    · rename_i x np a b p
      simp only [Bool.and_eq_true, gnB, decide_eq_true_eq] at h
      obtain ⟨⟨h1, h2⟩, h3⟩ := h
      cases h1
      obtain ⟨g1, _⟩ := glB_ok h2
      obtain ⟨q1, _, q3, q4⟩ := snd_Xs es sc _ X h3 g hs
      simp only [List.all_cons, List.all_nil, Bool.and_eq_true, Bool.and_true] at q3
      exact ⟨snd_Ir2 g (by show X.env.scope.names.lookup _ = _; rw [hs]; exact g1) q1 q4.symm q3.1 q3.2, rfl⟩
    · cases h
  | .zip es, sc, ex, X, tg, h, g, hs, hz => by
    unfold chkI at h
    split at h
    · rename_i x np a b p
      simp only [Bool.and_eq_true, gnB, decide_eq_true_eq] at h
      obtain ⟨⟨h1, h2⟩, h3⟩ := h
      cases h1
      obtain ⟨g1, _⟩ := glB_ok h2
      obtain ⟨q1, _, q3, q4⟩ := snd_Xs es sc _ X h3 g hs
      simp only [List.all_cons, List.all_nil, Bool.and_eq_true, Bool.and_true] at q3
      obtain ⟨elts, kk, tp, rfl⟩ := hz trivial
      exact ⟨snd_Iz g (by show X.env.scope.names.lookup _ = _; rw [hs]; exact g1) q1 q3.1 q3.2, rfl⟩
    · cases h
theorem snd_T : ∀ (t : Tg) (sc : Scope) (fnb : Str → Bool) (ex : Expr) (X : Cx), chkT T N t sc fnb ex = true → Good T W Φ N X → X.env.scope = sc → X.fn = fnb → PG X ex (tT W Φ t) ∧ plB ex = true
  | .nm i, sc, fnb, ex, X, h, g, hs, hf => by
    unfold chkT at h
    split at h
    · simp only [Bool.and_eq_true, decide_eq_true_eq] at h
      obtain ⟨h1, h2⟩ := locB_ok h.1.2
      exact ⟨snd_nm (g.kp i (by simpa using h.2)) (g.hN ▸ g.nd) (g.hN ▸ h.1.1) (hs ▸ h1) (by rw [hf, hs]; exact h2), rfl⟩
    · cases h
  | .tp ts, sc, fnb, ex, X, h, g, hs, hf => by
    unfold chkT at h
    split at h
    · obtain ⟨q1, q2, q3⟩ := snd_Ts ts sc fnb _ X h g hs hf
      exact ⟨snd_tp g.calm g.hK q1 q2 q3, rfl⟩
    · cases h
  | .sb k i, sc, fnb, ex, X, h, g, hs, hf => by
    unfold chkT at h
    split at h
    · rename_i x np y p
      simp only [Bool.and_eq_true] at h
      exact ⟨snd_sb (snd_name (p := np) g (hs ▸ h.1)) (snd_X i sc _ X h.2 g hs).1 (chkX_pl h.2), rfl⟩
    · cases h
theorem snd_Ts : ∀ (ts : Tgs) (sc : Scope) (fnb : Str → Bool) (xs : List Expr) (X : Cx), chkTs T N ts sc fnb xs = true → Good T W Φ N X → X.env.scope = sc → X.fn = fnb → PGs X xs (tTs W Φ ts) ∧ xs.all plB = true ∧ xs.length = ts.len
  | .n, sc, fnb, xs, X, h, g, hs, hf => by
    unfold chkTs at h
    split at h
    · exact ⟨snd_Ts0, rfl, rfl⟩
    · cases h
  | .c t ts, sc, fnb, xs, X, h, g, hs, hf => by
    unfold chkTs at h
    split at h
    · simp only [Bool.and_eq_true] at h
      obtain ⟨p1, p2⟩ := snd_T t sc fnb _ X h.1 g hs hf
      obtain ⟨q1, q2, q3⟩ := snd_Ts ts sc fnb _ X h.2 g hs hf
      exact ⟨snd_Ts1 p1 q1 p2, by simp [p2, q2], by rw [List.length_cons, q3]; rfl⟩
    · cases h
end
end
end WgS
set_option Elab.async false
set_option linter.all false
set_option maxRecDepth 100000
set_option maxHeartbeats 4000000
/-! WgS: statements that the checker accepts; the functions of a program. -/
namespace WgS
open PySem PySem.Spec PyProof.Rows L2
open Wg (D Slot Opd Ex Exs Tg Tgs Kvs Sts BOp COp Blt Mth LB)
section
variable {T : Tab} {W : Wd} {Φ : Wg.Ctx} {N : List Str}
theorem get_listP {X : Cx} : PGet X (rIxL X.K) := by
  intro pins s σ H x y v u Q I rx ry h
  obtain ⟨p, xs, i, z, rfl, rfl, hq, he, q⟩ := h
  cases rx
  obtain ⟨t, rfl⟩ := ry
  obtain ⟨its, r, pl, hz⟩ := I.list hq
  obtain ⟨j, h1, h2, h3, h4, h5⟩ := atI_get he
  obtain ⟨w, ew, rw'⟩ := r.get h2
  have hl := r.length
  have hn := line63
  have fin : EP X pins σ Q w s := ⟨z, H, I, rw', q⟩
  by_cases h0 : 0 ≤ i
  · have hj : i.toNat = j := by
      rw [seqIndex_of h0 h5] at h1
      exact Option.some.inj h1
    exact wpAny_getItem_list pl.isList h0 (by omega) (by rw [hj]; simpa using ew) fin
  · have hj : (i + (its.toArray.size : Int)).toNat = j := by
      rw [seqIndex_neg (by omega) h4] at h1
      rw [List.size_toArray, ← hl]
      exact Option.some.inj h1
    exact wpAny_getItem_list_neg pl.isList (by omega) (by rw [List.size_toArray] <;> omega) (by omega) (by rw [hj]; simpa using ew) fin
theorem snd_augS {X : Cx} {l r ex : Expr} {k : Nat} {i e : Ex} {o : BOp} {tpos pos : Pos} (hK : W.K = X.K) (hv : PE X l (tVar k)) (hi : PE X r (tX W Φ i)) (he : PE X ex (tX W Φ e)) (hp : plB r = true) :
    PS X (.AugAssign (.Subscript l r tpos) (opOf o) ex pos) (tW W fun ρ E => Wg.wS Φ (.augS k i o e) ρ E) := by
  have ha : ∀ ov iv new, augStore r ov iv new = (do holding [new, ov, iv] (setItem ov iv new); release [new, ov, iv] []; pure .next) := by
    intro ov iv new
    cases r <;> first | rfl | cases hp
  refine PS.imp (ps_augS hv hi get_listP he (ip_R o) set_list ha) fun D σ H ⟨Z, S, ρ, E, r, hw, f⟩ => ?_
  unfold Wg.wS at hw
  obtain ⟨v, hv⟩ := r.live hw.1
  refine ⟨v, hv, Z, S, ρ, _, r, hw.2, fun vi H1 S1 ρ1 s1 e1 r1 ri q => ?_⟩
  obtain ⟨S2, e2, r2, ri⟩ := fin_val r1 ri
  obtain ⟨ho, q⟩ := q
  unfold Wg.ownL at ho
  split at ho
  · rename_i l el
    obtain ⟨a, xs, h1, h2, h3, h4⟩ := r2.ol k l el
    rw [hv] at h1
    cases h1
    unfold Wg.peek at q
    rw [el] at q
    have q : Wg.idxV (.lst l) s1.val _ := q
    unfold Wg.idxV at q
    revert q ri
    generalize hi1 : s1.val = i1
    intro ri q
    cases i1 with
    | int j =>
      have q : (match (Wg.ixOf l.length j).bind (l[·]?) with | some d => _ | none => False) := q
      split at q
      · rename_i d ed
        cases ri
        obtain ⟨vd, g1, g2⟩ := atI_of h4 ed
        refine ⟨a, xs, j, vd, rfl, rfl, SqL.of h2, g1, Z, S2, ρ1, _, r2, q, fun y H3 S3 ρ3 s2 e3 r3 ry q => ?_⟩
        obtain ⟨S4, e4, r4, ry⟩ := fin_val r3 ry
        revert q ry
        generalize s2.val = sv
        intro q ry
        split at q
        · have g2 := Rep.mono (e3.trans e4).s _ _ g2
          cases g2
          cases ry
          refine ⟨_, _, rfl, rfl, ?_⟩
          obtain ⟨o', ho', h⟩ := setK_ok r4 (Rep.int j) (Rep.int _) q (Q := fun H6 => D.nx σ H6) fun H' ρ' e5 r5 q5 => f.nx σ H' S4 ρ' ((e1.trans e2).trans ((e3.trans e4).trans e5)) r5 q5
          rw [hv] at ho'
          cases ho'
          exact h
        · exact q.elim
      · exact q.elim
    | _ => exact (show False from q).elim
  · exact ho.elim
/-- what a comprehension is made of -/
theorem lc_parts {sc : Scope} {e : Ex} {elt : Expr} {gs : List Comprehension} {scope : Scope} {p : Pos} (h : chkX T N e sc (.ListComp elt gs scope p) = true) :
    ∃ own a t it c tg iter ifs, e = .lc own a t it c ∧ gs = [⟨tg, iter, ifs, 0⟩] ∧ chkX T N (.lc own a t it c) sc (.ListComp elt [⟨tg, iter, ifs, 0⟩] scope p) = true := by
  cases e with
  | lc own a t it c =>
    have h' := h
    unfold chkX at h
    split at h
    · rename_i x tg iter ifs scope' p' heq
      cases heq
      exact ⟨own, a, t, it, c, tg, iter, ifs, rfl, rfl, h'⟩
    · cases h
  | _ => exfalso; unfold chkX at h; (repeat' split at h) <;> first | contradiction | (simp [chkLit] at h; done)
theorem snd_lcS {X : Cx} {i : Nat} {y : Str} {py spos : Pos} {own : List Nat} {a : Ex} {t : Tg} {it : Wg.It} {c : Exs} {sc : Scope} {elt tg iter : Expr} {ifs : List Expr} {scope : Scope} {p : Pos} (h : chkX T N (.lc own a t it c) sc (.ListComp elt [⟨tg, iter, ifs, 0⟩] scope p) = true)
    (g : Good T W Φ N X) (hki : W.keep i = none) (hs : X.env.scope = sc) (hy : X.N[i]? = some y) (hyl : X.env.scope.names.lookup y = some .local) (hsw : swapsWith (.ListComp elt [⟨tg, iter, ifs, 0⟩] scope p) (some (.Name y py)) spos.line X.env = pure true) :
    PS X (.Assign [.Name y py] (.ListComp elt [⟨tg, iter, ifs, 0⟩] scope p) spos) (tW W fun ρ E => Wg.wX Φ (.lc own a t it c) ρ fun s ρ1 => Wg.wT Φ (.nm i) s ρ1 E.nx) := by
  unfold chkX at h
  simp only [Bool.and_eq_true] at h
  obtain ⟨⟨⟨⟨⟨⟨⟨h1, h2⟩, h3⟩, hk⟩, h4⟩, h5⟩, h6⟩, h7⟩ := h
  have hk : ∀ i ∈ own, W.keep i = none := fun i hi => g.kp i (by simpa using List.all_eq_true.mp hk i hi)
  obtain ⟨qi, pi⟩ := snd_I it sc iter X tg h4 g hs (fun z => by
    obtain ⟨ts, rfl⟩ := zipB_tp h3 z
    unfold chkT at h5
    split at h5
    · exact ⟨_, _, _, rfl⟩
    · cases h5)
  have hsc : ∀ cl C, (compEnvC scope cl C X.env).scope = relS scope sc := fun cl C => by rw [← hs]; rfl
  exact PS.imp (snd_setLc (spos := spos) g hy hyl hsw qi (blkOk_by (by rw [g.hN, hs]; exact h1)) (fun s H C cl fp => (snd_T t _ _ tg _ h5 (g.blk s H scope C cl fp) (hsc cl C) rfl).1)
        (fun s H C cl fp => snd_Cs c _ ifs _ h6 (g.blk s H scope C cl fp) (hsc cl C)) (fun s H C cl fp => (snd_X a _ elt _ h7 (g.blk s H scope C cl fp) (hsc cl C)).1) pi hk h2 h3) (asgN_imp hki)
/-- the parts of a pair of targets -/
theorem chkTs_nm {sc : Scope} {fnb : Str → Bool} {t : Tg} {x : Str} {p : Pos} (h : chkT T N t sc fnb (.Name x p) = true) : ∃ i, t = .nm i ∧ N[i]? = some x ∧ T.keep i = false := by
  cases t with
  | nm i =>
    have h : (decide (N[i]? = some x) && locB sc fnb x && !T.keep i) = true := by unfold chkT at h; exact h
    simp only [Bool.and_eq_true, decide_eq_true_eq] at h
    exact ⟨i, rfl, h.1.1, by simpa using h.2⟩
  | tp ts => have h : false = true := by unfold chkT at h; exact h
             cases h
  | sb k i => have h : false = true := by unfold chkT at h; exact h
              cases h
theorem chkX_tup {sc : Scope} {e : Ex} {xs : List Expr} {k : Nat} {p : Pos} (h : chkX T N e sc (.Tuple xs k p) = true) : ∃ es, e = .tup es ∧ chkXs T N es sc xs = true := by
  cases e with
  | tup es =>
    have h : (decide (es.len ≤ 1000) && chkXs T N es sc xs) = true := by unfold chkX at h; exact h
    simp only [Bool.and_eq_true] at h
    exact ⟨es, rfl, h.2⟩
  | _ => exfalso; unfold chkX at h; (repeat' split at h) <;> first | contradiction | (simp [chkLit] at h; done)
theorem chkXs_cons {sc : Scope} {es : Exs} {x : Expr} {xs : List Expr} (h : chkXs T N es sc (x :: xs) = true) : ∃ e es', es = .c e es' ∧ chkXs T N es' sc xs = true := by
  cases es with
  | n => have h : false = true := by unfold chkXs at h; exact h
         cases h
  | c e es =>
    have h : (chkX T N e sc x && chkXs T N es sc xs) = true := by unfold chkXs at h; exact h
    simp only [Bool.and_eq_true] at h
    exact ⟨e, es, rfl, h.2⟩
theorem chkXs_nil {sc : Scope} {es : Exs} (h : chkXs T N es sc [] = true) : es = .n := by
  cases es with
  | n => rfl
  | c e es => have h : false = true := by unfold chkXs at h; exact h
              cases h
theorem chkTs_cons {sc : Scope} {fnb : Str → Bool} {ts : Tgs} {x : Expr} {xs : List Expr} (h : chkTs T N ts sc fnb (x :: xs) = true) : ∃ t ts', ts = .c t ts' ∧ chkT T N t sc fnb x = true ∧ chkTs T N ts' sc fnb xs = true := by
  cases ts with
  | n => have h : false = true := by unfold chkTs at h; exact h
         cases h
  | c t ts =>
    have h : (chkT T N t sc fnb x && chkTs T N ts sc fnb xs) = true := by unfold chkTs at h; exact h
    simp only [Bool.and_eq_true] at h
    exact ⟨t, ts, rfl, h.1, h.2⟩
theorem chkTs_nil {sc : Scope} {fnb : Str → Bool} {ts : Tgs} (h : chkTs T N ts sc fnb [] = true) : ts = .n := by
  cases ts with
  | n => rfl
  | c t ts => have h : false = true := by unfold chkTs at h; exact h
              cases h
theorem chkT_tuple {sc : Scope} {fnb : Str → Bool} {t : Tg} {xs : List Expr} {k : Nat} {p : Pos} (h : chkT T N t sc fnb (.Tuple xs k p) = true) : ∃ ts, t = .tp ts ∧ chkTs T N ts sc fnb xs = true := by
  cases t with
  | nm i => have h : false = true := by unfold chkT at h; exact h
            cases h
  | tp ts =>
    have h : chkTs T N ts sc fnb xs = true := by unfold chkT at h; exact h
    exact ⟨ts, rfl, h⟩
  | sb k i => have h : false = true := by unfold chkT at h; exact h
              cases h
theorem snd_asgAll {X : Cx} {t : Tg} {e : Ex} {sc : Scope} {tg x : Expr} {p : Pos} (hk : X.env.scope.kind = .function) (g : Good T W Φ N X) (hs : X.env.scope = sc) (hf : X.fn = fun _ => true)
    (h1 : chkT T N t sc (fun _ => true) tg = true) (h2 : chkX T N e sc x = true) (h3 : (swp sc [tg] x).isSome = true) (h4 : notComp x = true) :
    PS X (.Assign [tg] x p) (tW W fun ρ E => Wg.wX Φ e ρ fun s ρ1 => Wg.wT Φ t s ρ1 E.nx) := by
  obtain ⟨qt, pt⟩ := snd_T t sc _ tg X h1 g hs hf
  obtain ⟨o, ho⟩ := Option.isSome_iff_exists.mp h3
  by_cases hb : swB X.env.scope x tg = true
  · have hsw := swapsWith_eq (l := p.line) hk h4 (tg := tg)
    rw [hb] at hsw
    unfold swB at hb
    split at hb
    · rename_i elt gs s' cp y py
      simp only [Bool.and_eq_true] at hb
      obtain ⟨⟨hb1, _⟩, _⟩ := hb
      obtain ⟨own, a, t', it, c, tg', iter, ifs, rfl, rfl, h2⟩ := lc_parts h2
      obtain ⟨i, rfl, hi, ki⟩ := chkTs_nm h1
      refine snd_lcS h2 g (g.kp i ki) hs (g.hN ▸ hi) ?_ hsw
      split at hb1
      · assumption
      · cases hb1
    · cases hb
  · have hb : swB X.env.scope x tg = false := by simpa using hb
    cases o with
    | none => exact snd_asg hk (snd_X e sc x X h2 g hs).1 qt hb h4 (hs ▸ ho) pt
    | some names =>
      cases tg with
      | Tuple ts k p1 =>
        cases x with
        | Tuple vs k2 p2 =>
          obtain ⟨hlen, hv, _⟩ := swp_names ho
          obtain ⟨tts, rfl, h1⟩ := chkT_tuple h1
          obtain ⟨es, rfl, h5⟩ := chkX_tup h2
          have qs := snd_Xs es sc vs X h5 g hs
          rcases ts with _ | ⟨t1, _ | ⟨t2, _ | ⟨t3, _ | ⟨t4, r⟩⟩⟩⟩
          · simp at hlen
          · simp at hlen
          · obtain ⟨x, px, y, py, a, b, rfl, rfl, rfl, rfl, lx, ly, hxy⟩ := swp_two ho
            obtain ⟨u1, ts1, rfl, c1, k1⟩ := chkTs_cons h1
            obtain ⟨u2, ts2, rfl, c2, k2⟩ := chkTs_cons k1
            cases chkTs_nil k2
            obtain ⟨i, rfl, hi, ki⟩ := chkTs_nm c1
            obtain ⟨j, rfl, hj, kj⟩ := chkTs_nm c2
            obtain ⟨e1, es1, rfl, h6⟩ := chkXs_cons h5
            obtain ⟨e2, es2, rfl, h7⟩ := chkXs_cons h6
            cases chkXs_nil h7
            exact snd_par2 (g.kp i ki) (g.kp j kj) g hk (g.hN ▸ hi) (g.hN ▸ hj) hxy (hs ▸ lx) (hs ▸ ly) qs.2.1 (hs ▸ ho)
          · obtain ⟨x, px, y, py, z, pz, a, b, c, rfl, rfl, rfl, rfl, rfl, lx, ly, lz, hxy, hxz, hyz⟩ := swp_three ho
            obtain ⟨u1, ts1, rfl, c1, k1⟩ := chkTs_cons h1
            obtain ⟨u2, ts2, rfl, c2, k2⟩ := chkTs_cons k1
            obtain ⟨u3, ts3, rfl, c3, k3⟩ := chkTs_cons k2
            cases chkTs_nil k3
            obtain ⟨i, rfl, hi, ki⟩ := chkTs_nm c1
            obtain ⟨j, rfl, hj, kj⟩ := chkTs_nm c2
            obtain ⟨l, rfl, hl, kl⟩ := chkTs_nm c3
            obtain ⟨e1, es1, rfl, h6⟩ := chkXs_cons h5
            obtain ⟨e2, es2, rfl, h7⟩ := chkXs_cons h6
            obtain ⟨e3, es3, rfl, h8⟩ := chkXs_cons h7
            cases chkXs_nil h8
            exact snd_par3 (g.kp i ki) (g.kp j kj) (g.kp l kl) g hk (g.hN ▸ hi) (g.hN ▸ hj) (g.hN ▸ hl) hxy hxz hyz (hs ▸ lx) (hs ▸ ly) (hs ▸ lz) qs.2.1 (hs ▸ ho)
          · simp at hlen
        | _ => cases ho
      | List ts p1 => cases x <;> cases ho
      | _ => cases ho
mutual
theorem snd_S : ∀ (s : Wg.St) (sc : Scope) (st : Stmt) (X : Cx), chkS T N sc s st = true → Good T W Φ N X → X.env.scope = sc → X.env.scope.kind = .function → X.fn = (fun _ => true) → PS X st (tW W fun ρ E => Wg.wS Φ s ρ E)
  | .asg t e, sc, st, X, h, g, hs, hk, hf => by
    unfold chkS at h
    split at h
    · simp only [Bool.and_eq_true] at h
      obtain ⟨⟨⟨h1, h2⟩, h3⟩, h4⟩ := h
      refine PS.imp (snd_asgAll hk g hs hf h1 h2 h3 ?_) fun D σ H q => q
      rename_i tg x p
      cases x <;> first | rfl | cases h4
    · cases h
  | .aug i o e, sc, st, X, h, g, hs, hk, hf => by
    unfold chkS at h
    split at h
    · simp only [Bool.and_eq_true, decide_eq_true_eq] at h
      obtain ⟨⟨⟨⟨h1, hk'⟩, h2⟩, rfl⟩, h4⟩ := h
      obtain ⟨l1, l2⟩ := locB_ok h2
      exact snd_aug (g.kp i (by simpa using hk')) g (g.hN ▸ h1) (hs ▸ l1) (.inl (by rw [hf])) (snd_X e sc _ X h4 g hs).1
    · cases h
  | .augS k i o e, sc, st, X, h, g, hs, hk, hf => by
    unfold chkS at h
    split at h
    · rename_i x np j tp op y p
      simp only [Bool.and_eq_true, decide_eq_true_eq] at h
      obtain ⟨⟨⟨h1, h2⟩, rfl⟩, h4⟩ := h
      exact snd_augS g.hK (snd_name (p := np) g (hs ▸ h1)) (snd_X i sc _ X h2 g hs).1 (snd_X e sc _ X h4 g hs).1 (chkX_pl h2)
    · cases h
  | .exp e, sc, st, X, h, g, hs, hk, hf => by
    unfold chkS at h
    split at h
    · rename_i x p
      simp only [Bool.and_eq_true] at h
      refine PS.imp (snd_exp (snd_X e sc _ X h.2 g hs).1 ?_) fun D σ H q => q
      obtain ⟨h1, _⟩ := h
      cases x <;> first | rfl | cases h1
    · cases h
  | .ret e, sc, st, X, h, g, hs, hk, hf => by
    unfold chkS at h
    split at h
    · exact PS.imp (snd_ret (snd_X e sc _ X h g hs).1) fun D σ H q => q
    · cases h
  | .iff c a b, sc, st, X, h, g, hs, hk, hf => by
    unfold chkS at h
    split at h
    · simp only [Bool.and_eq_true] at h
      exact PS.imp (snd_if (snd_X c sc _ X h.1.1 g hs).2 (snd_Ss a sc _ X h.1.2 g hs hk hf) (snd_Ss b sc _ X h.2 g hs hk hf)) fun D σ H q => q
    · cases h
  | .whl c b, sc, st, X, h, g, hs, hk, hf => by
    unfold chkS at h
    split at h
    · simp only [Bool.and_eq_true] at h
      exact PS.imp (snd_whl g (snd_X c sc _ X h.1 g hs).2 (snd_Ss b sc _ X h.2 g hs hk hf)) fun D σ H q => q
    · cases h
  | .for t it b, sc, st, X, h, g, hs, hk, hf => by
    unfold chkS at h
    split at h
    · rename_i tg iter body p
      simp only [Bool.and_eq_true] at h
      obtain ⟨⟨⟨h1, h2⟩, h3⟩, h4⟩ := h
      obtain ⟨qi, pi⟩ := snd_I it sc iter X tg h3 g hs (fun z => by
        obtain ⟨ts, rfl⟩ := zipB_tp h2 z
        unfold chkT at h1
        split at h1
        · exact ⟨_, _, _, rfl⟩
        · cases h1)
      exact PS.imp (snd_for g qi (snd_T t sc _ tg X h1 g hs hf).1 (snd_Ss b sc _ X h4 g hs hk hf) pi h2) fun D σ H q => q
    · cases h
  | .brk, sc, st, X, h, g, hs, hk, hf => by
    unfold chkS at h
    split at h
    · exact PS.imp snd_brk fun D σ H q => q
    · cases h
  | .cnt, sc, st, X, h, g, hs, hk, hf => by
    unfold chkS at h
    split at h
    · exact PS.imp snd_cnt fun D σ H q => q
    · cases h
  | .rse, sc, st, X, h, g, hs, hk, hf => PS.imp snd_rse fun D σ H q => q
theorem snd_Ss : ∀ (ss : Sts) (sc : Scope) (st : List Stmt) (X : Cx), chkSs T N sc ss st = true → Good T W Φ N X → X.env.scope = sc → X.env.scope.kind = .function → X.fn = (fun _ => true) → PSs X st (tW W fun ρ E => Wg.wSs Φ ss ρ E)
  | .n, sc, st, X, h, g, hs, hk, hf => by
    unfold chkSs at h
    split at h
    · exact PSs.imp snd_ss0 fun D σ H q => q
    · cases h
  | .c s ss, sc, st, X, h, g, hs, hk, hf => by
    unfold chkSs at h
    split at h
    · simp only [Bool.and_eq_true] at h
      exact PSs.imp (snd_ss1 (snd_S s sc _ X h.1 g hs hk hf) (snd_Ss ss sc _ X h.2 g hs hk hf)) fun D σ H q => q
    · cases h
end
end
/-! ### the functions of a program -/
/-- a def of the text is the Wg function -/
structure DefW (T : Tab) (K : PySem.W.Frag) (mg : Str → Option Value) (x : Str) (fn : Wg.Fn) : Prop where
  ex : ∃ (f : Addr) (qual : Str) (params : Arguments) (body : List Stmt) (scope : Scope) (dV kV doc pm cdv ct oc : Value) (an od : Option Addr) (osl : Array (Option Value)) (N ps : List Str),
    mg x = some (.ref f) ∧ PySem.W.keepIn K (.ref f) = true ∧ K.lookup f = some ⟨oc, od, .func (PySem.W.fnOf x qual params body scope dV kV doc pm an cdv ct), osl⟩ ∧ PySem.W.codeIn K cdv qual = true ∧ FnScope N ps scope ∧
    Binds K (PySem.W.fnOf x qual params body scope dV kV doc pm an cdv ct) ps [] ∧ ps.length = fn.pars ∧ N.length = fn.slots ∧ chkSs T N scope fn.body body = true
/-- a function of the table as it may be called -/
structure CalW (P : Program) (w : World) (K : PySem.W.Frag) (mg : Str → Option Value) (base : Heap) (k : Nat) (x : Str) (sp : Sp) : Prop where
  ex : ∃ (f : Addr) (fd : FuncData) (ps : List Str), mg x = some (.ref f) ∧ PySem.W.keepIn K (.ref f) = true ∧ Binds K fd ps [] ∧ FnOk P w K mg base CX0 k f fd ps sp
theorem getElem?_map_append {ds : List D} {n i : Nat} {s : Slot} (e : (ds.map Slot.sh ++ List.replicate n Slot.un)[i]? = some s) : (∃ d, ds[i]? = some d ∧ s = .sh d) ∨ (s = .un) := by
  by_cases h : i < ds.length
  · rw [List.getElem?_append_left (by simpa using h)] at e
    rw [List.getElem?_map] at e
    cases q : ds[i]? with
    | none => rw [q] at e; cases e
    | some d => rw [q] at e; cases e; exact .inl ⟨d, rfl, rfl⟩
  · rw [List.getElem?_append_right (by simpa using h)] at e
    right
    have := List.mem_of_getElem? e
    exact List.eq_of_mem_replicate this
/-- the state at the entry -/
theorem entry {W : Wd} {S : AS} {H : Hp} {vs : List V} {ds : List D} {N : List Str} {k : Nat} (h0 : W.keep = fun _ => none) (h1 : ∀ a, S a → H a ≠ none ∧ W.P ≠ some a) (h2 : ∀ p, W.P = some p → S W.ps ∧ Pool0 W H p) (h3 : Reps W S H vs ds) (hk : N.length = ds.length + k) :
    R W (fun a => H a ≠ none ∧ ¬ S a ∧ W.P ≠ some a) S (ds.map Slot.sh ++ List.replicate k .un) (L2.start N vs) H := by
  have hl := h3.length
  have hv : N.length - vs.length = k := by omega
  have noOwn : ∀ i : Nat, ¬ isOwn (ds.map Slot.sh ++ List.replicate k Slot.un)[i]? := fun i o => by
    cases e : (ds.map Slot.sh ++ List.replicate k Slot.un)[i]? with
    | none => rw [e] at o; exact o
    | some s =>
      rcases getElem?_map_append e with ⟨d, _, rfl⟩ | rfl <;> rw [e] at o <;> exact o
  refine ⟨?_, fun i v e => (by rw [h0] at e; cases e), fun i d e => ?_, fun i l e => (noOwn i (by rw [e]; trivial)).elim, fun i l e => noOwn i (by rw [e]; trivial), fun i j a o => (noOwn i o).elim, fun a h => ?_, fun a h z => z.2.1 h, fun p hp => ?_⟩
  · unfold L2.start
    rw [hv]
    simp [hl]
  · rcases getElem?_map_append e with ⟨d', e', q⟩ | q
    · cases q
      obtain ⟨v, g1, g2⟩ := h3.get e'
      refine ⟨v, ?_, g2⟩
      unfold L2.start
      rw [List.getElem?_append_left (by rw [List.length_map]; exact (List.getElem?_eq_some_iff.mp g1).1), List.getElem?_map, g1]
      rfl
    · cases q
  · rcases h with h | h
    · exact (h1 a h).1
    · exact h.1
  · exact ⟨fun h => (h1 p h).2 hp, fun z => z.2.2 hp, (h2 p hp).1, (h2 p hp).2⟩
section
variable {P : Program} {w : World} {K : PySem.W.Frag} {mg : Str → Option Value} {base : Heap} {T : Tab} {W : Wd} {Pg : Wg.Prog}
/-- what is known of the module -/
structure Known (K : PySem.W.Frag) (mg : Str → Option Value) (T : Tab) (W : Wd) (Pg : Wg.Prog) : Prop where
  hK : W.K = K
  kp0 : W.keep = fun _ => none
  blt : ∀ b x, bltName b = some x → mg x = none
  rng : mg "range" = none
  zp : mg "zip" = none
  st : mg "set" = none
  con : ∀ g x, T.con g = some x → ∃ v u d, mg x = some u ∧ RelV v u ∧ Pg.G g = some d ∧ ∀ S H, Rep W S H v d
  defs : ∀ f x, T.fn f = some x → f ≠ 0 → ∃ fn, Pg.fns f = some fn ∧ DefW T K mg x fn
/-- a def does what Wg says -/
theorem fn_ok {k : Nat} {x : Str} {fn : Wg.Fn} {F : Nat → List D → (D → Prop) → Prop} (kn : Known K mg T W Pg) (d : DefW T K mg x fn) (ih : ∀ f x, T.fn f = some x → CalW P w K mg base k x (SpF W F f)) {F' : Nat → List D → (D → Prop) → Prop} {f : Nat}
    (hF : ∀ ds Q, F' f ds Q → Wg.wF ⟨Pg.G, F⟩ fn ds Q) : CalW P w K mg base (k + 1) x (SpF W F' f) := by
  obtain ⟨a, qual, params, body, scope, dV, kV, doc, pm, cdv, ct, oc, an, od, osl, N, ps, hm, hk, lk, hcd, FS, hb, hpars, hslots, hchk⟩ := d.ex
  have len : ∀ vs H Q E, SpF W F' f vs H Q E → vs.length = ps.length := fun vs H Q E ⟨S, ds, Qd, _, _, h3, h4, _⟩ => by
    rw [h3.length, hpars]
    exact (hF ds Qd h4).1
  refine ⟨a, _, ps, hm, hk, hb, fn_of lk hcd FS len fun A outer s H vs Q E hr hsp => ?_⟩
  refine ⟨tW W fun ρ E => Wg.wSs ⟨Pg.G, F⟩ fn.body ρ E, ?_, ?_⟩
  · refine PSs.nox (snd_Ss (T := T) (N := N) fn.body scope body _ hchk ⟨rfl, kn.hK, rfl, FS.nd, rfl, ?_, kn.blt, kn.rng, kn.zp, kn.st, fun f x hf => ?_, fun i _ => (by rw [kn.kp0]), kn.con⟩ rfl FS.kind rfl)
    · have := hr.un
      show (A.deeper (envOfC qual scope s.heap.objs.size a cdv)).units + 65 < cLine
      omega
    · obtain ⟨a', fd', ps', g1, g2, g3, g4⟩ := (ih f x hf).ex
      exact ⟨a', fd', ps', k, g1, g2, g3, hr, g4⟩
  · obtain ⟨S, ds, Qd, h1, h2, h3, h4, h5⟩ := hsp
    obtain ⟨w1, w2, w3⟩ := hF ds Qd h4
    have r0 := entry (N := N) (k := fn.slots - fn.pars) kn.kp0 h1 h2 h3 (by omega)
    have fin : ∀ v H' S' ρ' σ' d, Ext (fun a => H a ≠ none ∧ ¬ S a ∧ W.P ≠ some a) S H S' H' → R W (fun a => H a ≠ none ∧ ¬ S a ∧ W.P ≠ some a) S' ρ' σ' H' → Rep W S' H' v d → Qd d → Q v H' := fun v H' S' ρ' σ' d e r rv q => by
      refine h5 v H' S' d (fun a ha hp => ?_) (fun p hp => (r.pool p hp).2.2.2) (fun a ha => ⟨?_, r.trk a (.inl ha)⟩) rv q
      · by_cases hs : S a
        · exact (e.s a hs).2
        · exact e.z a ⟨ha, hs, hp⟩
      · by_cases hs : S a
        · exact .inl hs
        · right
          cases ho : H a with
          | none => rfl
          | some o => exact (r.dz a ha ⟨by rw [ho]; simp, hs, fun hp => (r.pool a hp).1 ha⟩).elim
    exact ⟨_, S, _, _, r0, w3, ⟨fun σ' H' S' ρ' e r q => fin .non H' S' ρ' σ' .non e r .non q, fin, fun _ _ _ _ _ _ q => q.elim, fun _ _ _ _ _ _ q => q.elim⟩⟩
/-- nothing is asked -/
theorem fn_false {k : Nat} {x : Str} {fn : Wg.Fn} {sp : Sp} (d : DefW T K mg x fn) (h : ∀ vs H Q E, ¬ sp vs H Q E) : CalW P w K mg base k x sp := by
  obtain ⟨a, qual, params, body, scope, dV, kV, doc, pm, cdv, ct, oc, an, od, osl, N, ps, hm, hk, lk, hcd, FS, hb, hpars, hslots, hchk⟩ := d.ex
  exact ⟨a, _, ps, hm, hk, hb, ⟨fun vs H Q E q => (h vs H Q E q).elim, fun A outer s H args us vs Q E _ _ _ _ q => (h vs H Q E q).elim⟩⟩
theorem CalW.mono {j k : Nat} {x : Str} {sp : Sp} (c : CalW P w K mg base j x sp) (h : j ≤ k) : CalW P w K mg base k x sp := by
  obtain ⟨f, fd, ps, h1, h2, h3, h4⟩ := c.ex
  exact ⟨f, fd, ps, h1, h2, h3, h4.mono h⟩
theorem CalW.imp {k : Nat} {x : Str} {sp sp' : Sp} (c : CalW P w K mg base k x sp) (h : ∀ vs H Q E, sp' vs H Q E → sp vs H Q E) : CalW P w K mg base k x sp' := by
  obtain ⟨f, fd, ps, h1, h2, h3, h4⟩ := c.ex
  exact ⟨f, fd, ps, h1, h2, h3, h4.imp h⟩
/-- all functions of the table, to every depth -/
theorem all_ok (kn : Known K mg T W Pg) {k0 : Nat} (draw : ∀ x, T.fn 0 = some x → CalW P w K mg base k0 x (SpF W (Wg.run Pg 0) 0)) : ∀ n f x, T.fn f = some x → CalW P w K mg base (n + k0) x (SpF W (Wg.run Pg n) f)
  | 0, f, x, hf => by
    rw [Nat.zero_add]
    by_cases h0 : f = 0
    · subst h0; exact draw x hf
    · obtain ⟨fn, _, d⟩ := kn.defs f x hf h0
      refine fn_false d fun vs H Q E ⟨S, ds, Qd, _, _, _, h4, _⟩ => ?_
      unfold Wg.run at h4
      split at h4
      · exact h0 rfl
      · exact h4
  | n + 1, f, x, hf => by
    by_cases h0 : f = 0
    · subst h0
      refine ((draw x hf).mono (Nat.le_add_left _ _)).imp fun vs H Q E ⟨S, ds, Qd, h1, h2, h3, h4, h5⟩ => ⟨S, ds, Qd, h1, h2, h3, ?_, h5⟩
      unfold Wg.run at h4 ⊢
      split at h4
      · exact h4
      · exact h4.elim
      · rename_i q _; exact (q rfl).elim
    · obtain ⟨fn, hfn, d⟩ := kn.defs f x hf h0
      have e : n + 1 + k0 = (n + k0) + 1 := by omega
      rw [e]
      refine fn_ok kn d (fun f x hf => all_ok kn draw n f x hf) fun ds Q h => ?_
      unfold Wg.run at h
      split at h
      · exact (h0 rfl).elim
      · exact h.elim
      · rw [hfn] at h; exact h
end
end WgS
set_option Elab.async false
set_option linter.all false
set_option maxRecDepth 100000
/-! Wg: the draws of a law. Plain Lean. -/
namespace Wg
/-- 0 _law_draw(pool, many); pool 0, many 1, cell 2, mixed 3, value 4 -/
def f_law_draw : Fn := ⟨5, 2,
  (.c (.iff (.and (.cmp .le (.idx (.var 0) (.lit (.int 2))) (.lit (.int 0))) (.cmp .lt (.idx (.var 0) (.lit (.int 1))) (.blt .len (.c (.idx (.var 0) (.lit (.int 0))) .n)))) (.c (.asg (.nm 2) (.idx (.idx (.var 0) (.lit (.int 0))) (.idx (.var 0) (.lit (.int 1)))))
   (.c (.asg (.sb 0 (.lit (.int 1))) (.bin .add (.idx (.var 0) (.lit (.int 1))) (.lit (.int 1))))
   (.c (.asg (.sb 0 (.lit (.int 2))) (.var 2))
   (.c (.iff (.cmp .lt (.var 2) (.lit (.int 1000000000000000000))) (.c (.asg (.sb 0 (.lit (.int 2))) (.call 2 (.c (.var 2) .n)))
    .n) .n)
   .n)))) .n)
  (.c (.asg (.sb 0 (.lit (.int 3))) (.bin .add (.idx (.var 0) (.lit (.int 3))) (.lit (.int 1))))
  (.c (.iff (.cmp .le (.idx (.var 0) (.lit (.int 2))) (.lit (.int 0))) (.c (.asg (.nm 3) (.bin .mod (.blt .int (.c (.bin .add (.bin .add (.bin .mul (.idx (.var 0) (.lit (.int 4))) (.lit (.int 48271))) (.bin .mul (.idx (.var 0) (.lit (.int 3))) (.lit (.int 69621)))) (.lit (.int 1))) .n)) (.lit (.int 2147483647))))
   (.c (.asg (.nm 3) (.bin .mod (.blt .int (.c (.bin .add (.bin .mul (.var 3) (.lit (.int 16807))) (.idx (.var 0) (.lit (.int 3)))) .n)) (.lit (.int 2147483629))))
   (.c (.ret (.bin .mod (.bin .fdiv (.var 3) (.lit (.int 5))) (.var 1)))
   .n))) .n)
  (.c (.asg (.nm 4) (.bin .mod (.blt .int (.c (.idx (.var 0) (.lit (.int 2))) .n)) (.var 1)))
  (.c (.asg (.sb 0 (.lit (.int 2))) (.bin .fdiv (.idx (.var 0) (.lit (.int 2))) (.var 1)))
  (.c (.ret (.var 4))
  .n))))))⟩
/-- 2 _law_spread(cell); cell 0, mixed 1, total 2, k 3 -/
def f_law_spread : Fn := ⟨4, 1,
  (.c (.asg (.nm 1) (.bin .mod (.blt .int (.c (.var 0) .n)) (.lit (.int 2147483647))))
  (.c (.asg (.nm 2) (.lit (.int 1)))
  (.c (.for (.nm 3) (.range (.c (.lit (.int 4)) .n)) (.c (.asg (.nm 1) (.bin .mod (.blt .int (.c (.bin .add (.bin .add (.bin .mul (.var 1) (.lit (.int 48271))) (.lit (.int 12345))) (.var 3)) .n)) (.lit (.int 2147483647))))
   (.c (.asg (.nm 2) (.bin .add (.bin .mul (.var 2) (.lit (.int 2147483647))) (.var 1)))
   .n)))
  (.c (.ret (.var 2))
  .n))))⟩
/-- 1 _law_pool(script); script 0, salt 1, cell 2 -/
def f_law_pool : Fn := ⟨3, 1,
  (.c (.asg (.nm 1) (.lit (.int 7)))
  (.c (.for (.nm 2) (.e (.slc (.var 0) .noPart (.lit (.int 63)))) (.c (.asg (.nm 1) (.bin .mod (.blt .int (.c (.bin .add (.bin .mul (.var 1) (.lit (.int 31))) (.var 2)) .n)) (.lit (.int 1000003))))
   .n))
  (.c (.ret (.lst (.c (.blt .list (.c (.var 0) .n)) (.c (.lit (.int 0)) (.c (.lit (.int 0)) (.c (.lit (.int 0)) (.c (.var 1) .n)))))))
  .n)))⟩
theorem okM {i j : Int} (h : j.natAbs < 2 ^ 64) : okMul i j := .inl (.inr h)
theorem spread_ok (Φ : Ctx) (c : Int) : ∃ t : Int, ∀ Q : D → Prop, Q (.int t) → wF Φ f_law_spread [.int c] Q := by
  have loop : ∀ (l : List Int) (m s : Int) (x : Slot), ∃ t : Int, ∀ E : Ends, (∀ y z, E.nx [.sh (.int c), y, .sh (.int t), z]) → foW (fun x ρ E => wT Φ (.nm 3) (.sh x) ρ fun ρ' => wSs Φ (.c (.asg (.nm 1) (.bin .mod (.blt .int (.c (.bin .add (.bin .add (.bin .mul (.var 1) (.lit (.int 48271))) (.lit (.int 12345))) (.var 3)) .n)) (.lit (.int 2147483647))))
   (.c (.asg (.nm 2) (.bin .add (.bin .mul (.var 2) (.lit (.int 2147483647))) (.var 1)))
   .n)) ρ' E) E (l.map .int) [.sh (.int c), .sh (.int m), .sh (.int s), x] := by
    intro l
    induction l with
    | nil => intro m s x; exact ⟨s, fun E h => h _ x⟩
    | cons n l ih =>
      intro m s x
      obtain ⟨t, ht⟩ := ih ((m * 48271 + 12345 + n).fmod 2147483647) (s * 2147483647 + (m * 48271 + 12345 + n).fmod 2147483647) (.sh (.int n))
      refine ⟨t, fun E h => ?_⟩
      ((repeat ((conv => whnf); refine And.intro (by first | exact trivial | exact rfl | omega | assumption | decide | exact pls_nD _ _) ?_)); (conv => whnf))
      refine And.intro (okM (by decide)) ?_
      ((repeat ((conv => whnf); refine And.intro (by first | exact trivial | exact rfl | omega | assumption | decide | exact pls_nD _ _) ?_)); (conv => whnf))
      refine And.intro (okM (by decide)) ?_
      ((repeat ((conv => whnf); refine And.intro (by first | exact trivial | exact rfl | omega | assumption | decide | exact pls_nD _ _) ?_)); (conv => whnf))
      exact ht E h
  obtain ⟨t, ht⟩ := loop [0, 1, 2, 3] (c.fmod 2147483647) 1 .un
  refine ⟨t, fun Q h => ⟨rfl, by decide, ?_⟩⟩
  iterate 4 ((conv => whnf); refine And.intro (by first | exact trivial | exact rfl | omega | assumption | decide | exact pls_nD _ _) ?_)
  refine ht _ ?_
  intro y z
  ((repeat ((conv => whnf); refine And.intro (by first | exact trivial | exact rfl | omega | assumption | decide | exact pls_nD _ _) ?_)); (conv => whnf))
  exact h
theorem pool_ok (Φ : Ctx) (ns : List Int) : ∃ t : Int, ∀ Q : D → Prop, Q (.lst [.lst (ns.map .int), .int 0, .int 0, .int 0, .int t]) → wF Φ f_law_pool [.scr 0 ns] Q := by
  have loop : ∀ (l : List Int) (s : Int) (x : Slot), ∃ t : Int, ∀ E : Ends, (∀ y, E.nx [.sh (.scr 0 ns), .sh (.int t), y]) → foW (fun x ρ E => wT Φ (.nm 2) (.sh x) ρ fun ρ' => wSs Φ (.c (.asg (.nm 1) (.bin .mod (.blt .int (.c (.bin .add (.bin .mul (.var 1) (.lit (.int 31))) (.var 2)) .n)) (.lit (.int 1000003)))) .n) ρ' E) E (l.map .int) [.sh (.scr 0 ns), .sh (.int s), x] := by
    intro l
    induction l with
    | nil => intro s x; exact ⟨s, fun E h => h x⟩
    | cons n l ih =>
      intro s x
      obtain ⟨t, ht⟩ := ih ((s * 31 + n).fmod 1000003) (.sh (.int n))
      refine ⟨t, fun E h => ?_⟩
      ((repeat ((conv => whnf); refine And.intro (by first | exact trivial | exact rfl | omega | assumption | decide | exact pls_nD _ _) ?_)); (conv => whnf))
      refine And.intro (okM (by decide)) ?_
      ((repeat ((conv => whnf); refine And.intro (by first | exact trivial | exact rfl | omega | assumption | decide | exact pls_nD _ _) ?_)); (conv => whnf))
      exact ht E h
  obtain ⟨t, ht⟩ := loop (ns.take 63) 7 .un
  refine ⟨t, fun Q h => ⟨rfl, by decide, ?_⟩⟩
  ((repeat ((conv => whnf); refine And.intro (by first | exact trivial | exact rfl | omega | assumption | decide | exact pls_nD _ _) ?_)); (conv => whnf))
  have e : (List.drop 0 (ns.map D.int)).take ((if (63 : Int) < 0 then (max (63 + (ns.length : Int)) 0).toNat else (min 63 (ns.length : Int)).toNat) - 0) = (ns.take 63).map D.int := by
    rw [if_neg (by decide), List.drop_zero, Nat.sub_zero, List.map_take]
    by_cases q : ns.length ≤ 63
    · rw [List.take_of_length_le (l := ns.map D.int) (i := 63) (by simpa using q), List.take_of_length_le]
      rw [List.length_map]; omega
    · congr 1; omega
  rw [e]
  exact ht _ fun y => by ((repeat ((conv => whnf); refine And.intro (by first | exact trivial | exact rfl | omega | assumption | decide | exact pls_nD _ _) ?_)); (conv => whnf)); exact h
/-- a pool's list, and a draw from it -/
theorem draw_ok (Φ : Ctx) (hF : ∀ (c : Int) (Q : D → Prop), (∀ t : Int, Q (.int t)) → Φ.F 2 [.int c] Q) (cs : List Int) (i x c z m : Int) (hi : 0 ≤ i) (hm : 0 < m) (hm2 : m < 2 ^ 31) (E : Ends)
    (hE : ∀ (v i x c z : Int) (r : List Slot), 0 ≤ v → v < m → 0 ≤ i → E.rt (.int v) (.ol [.scr 1 cs, .int i, .int x, .int c, .int z] :: r)) :
    wSs Φ f_law_draw.body [.ol [.scr 1 cs, .int i, .int x, .int c, .int z], .sh (.int m), .un, .un, .un] E := by
  have m0 : m ≠ 0 := by omega
  have md : ∀ a : Int, 0 ≤ a.fmod m ∧ a.fmod m < m := fun a => ⟨Int.fmod_nonneg_of_pos a hm, Int.fmod_lt_of_pos a hm⟩
  have tail : ∀ (i x c z : Int) (s1 s2 s3 : Slot), 0 ≤ i → wSs Φ (.c (.asg (.sb 0 (.lit (.int 3))) (.bin .add (.idx (.var 0) (.lit (.int 3))) (.lit (.int 1))))
  (.c (.iff (.cmp .le (.idx (.var 0) (.lit (.int 2))) (.lit (.int 0))) (.c (.asg (.nm 3) (.bin .mod (.blt .int (.c (.bin .add (.bin .add (.bin .mul (.idx (.var 0) (.lit (.int 4))) (.lit (.int 48271))) (.bin .mul (.idx (.var 0) (.lit (.int 3))) (.lit (.int 69621)))) (.lit (.int 1))) .n)) (.lit (.int 2147483647))))
   (.c (.asg (.nm 3) (.bin .mod (.blt .int (.c (.bin .add (.bin .mul (.var 3) (.lit (.int 16807))) (.idx (.var 0) (.lit (.int 3)))) .n)) (.lit (.int 2147483629))))
   (.c (.ret (.bin .mod (.bin .fdiv (.var 3) (.lit (.int 5))) (.var 1)))
   .n))) .n)
  (.c (.asg (.nm 4) (.bin .mod (.blt .int (.c (.idx (.var 0) (.lit (.int 2))) .n)) (.var 1)))
  (.c (.asg (.sb 0 (.lit (.int 2))) (.bin .fdiv (.idx (.var 0) (.lit (.int 2))) (.var 1)))
  (.c (.ret (.var 4))
  .n))))) [.ol [.scr 1 cs, .int i, .int x, .int c, .int z], .sh (.int m), s1, s2, s3] E := by
    intro i x c z s1 s2 s3 hi
    ((repeat ((conv => whnf); refine And.intro (by first | exact trivial | exact rfl | omega | assumption | decide | exact pls_nD _ _) ?_)); (conv => whnf))
    refine bif_by (fun h => ?_) (fun h => ?_)
    · ((repeat ((conv => whnf); refine And.intro (by first | exact trivial | exact rfl | omega | assumption | decide | exact pls_nD _ _) ?_)); (conv => whnf))
      refine And.intro (okM (by decide)) ?_
      ((repeat ((conv => whnf); refine And.intro (by first | exact trivial | exact rfl | omega | assumption | decide | exact pls_nD _ _) ?_)); (conv => whnf))
      refine And.intro (okM (by decide)) ?_
      ((repeat ((conv => whnf); refine And.intro (by first | exact trivial | exact rfl | omega | assumption | decide | exact pls_nD _ _) ?_)); (conv => whnf))
      refine And.intro (okM (by decide)) ?_
      ((repeat ((conv => whnf); refine And.intro (by first | exact trivial | exact rfl | omega | assumption | decide | exact pls_nD _ _) ?_)); (conv => whnf))
      refine And.intro ⟨by decide, .inl (by decide)⟩ ?_
      ((repeat ((conv => whnf); refine And.intro (by first | exact trivial | exact rfl | omega | assumption | decide | exact pls_nD _ _) ?_)); (conv => whnf))
      exact hE _ i x (c + 1) z _ (md _).1 (md _).2 hi
    · ((repeat ((conv => whnf); refine And.intro (by first | exact trivial | exact rfl | omega | assumption | decide | exact pls_nD _ _) ?_)); (conv => whnf))
      refine And.intro ⟨m0, .inl (by omega)⟩ ?_
      ((repeat ((conv => whnf); refine And.intro (by first | exact trivial | exact rfl | omega | assumption | decide | exact pls_nD _ _) ?_)); (conv => whnf))
      exact hE _ i _ (c + 1) z _ (md _).1 (md _).2 hi
  ((repeat ((conv => whnf); refine And.intro (by first | exact trivial | exact rfl | omega | assumption | decide | exact pls_nD _ _) ?_)); (conv => whnf))
  refine bif_by (fun h1 => ?_) (fun h1 => ?_)
  · ((repeat ((conv => whnf); refine And.intro (by first | exact trivial | exact rfl | omega | assumption | decide | exact pls_nD _ _) ?_)); (conv => whnf))
    refine bif_by (fun h2 => ?_) (fun h2 => ?_)
    · have h3 : i < cs.length := by simpa [D.lt, Slot.val] using h2
      have hlt : i.toNat < cs.length := by omega
      ((repeat ((conv => whnf); refine And.intro (by first | exact trivial | exact rfl | omega | assumption | decide | exact pls_nD _ _) ?_)); (conv => whnf))
      refine idxL_int hi (d := .int cs[i.toNat]) (by simp [hlt]) ?_
      ((repeat ((conv => whnf); refine And.intro (by first | exact trivial | exact rfl | omega | assumption | decide | exact pls_nD _ _) ?_)); (conv => whnf))
      refine bif_by (fun h4 => ?_) (fun h4 => ?_)
      · ((repeat ((conv => whnf); refine And.intro (by first | exact trivial | exact rfl | omega | assumption | decide | exact pls_nD _ _) ?_)); (conv => whnf))
        refine hF _ _ fun t => ?_
        ((conv => whnf); refine And.intro (by first | exact trivial | exact rfl | omega | assumption | decide | exact pls_nD _ _) ?_)
        exact tail (i + 1) t c z _ _ _ (by omega)
      · exact tail (i + 1) _ c z _ _ _ (by omega)
    · exact tail i x c z _ _ _ hi
  · exact tail i x c z _ _ _ hi
end Wg
set_option Elab.async false
set_option linter.all false
set_option maxRecDepth 100000
set_option maxHeartbeats 4000000
/-! WgS: the draws; a law over the pool. -/
namespace WgS
open PySem PySem.Spec PyProof.Rows L2
open Wg (D Slot Opd Ex Exs Tg Tgs Kvs Sts BOp COp Blt Mth LB)
/-- tables for the draws -/
def T0 : Tab := ⟨fun _ => none, fun _ => none, fun _ => false⟩
def T1 : Tab := ⟨fun f => if f = 2 then some "_law_spread" else none, fun _ => none, fun i => i == 0⟩
/-- what the spread does -/
def Fsp : Nat → List D → (D → Prop) → Prop := fun _ ds Q => ∃ c, ds = [.int c] ∧ ∀ t : Int, Q (.int t)
structure Base (K : PySem.W.Frag) (mg : Str → Option Value) : Prop where
  blt : ∀ b x, bltName b = some x → mg x = none
  rng : mg "range" = none
  zp : mg "zip" = none
  st : mg "set" = none
section
variable {W W2 : Wd} {S : AS} {H : Hp}
mutual
theorem Rep.conv (k1 : W.K = W2.K) (k2 : W.P = W2.P) (k3 : W.fn = W2.fn) : ∀ (d : D) (v : V), Rep W S H v d → Rep W2 S H v d
  | .non, _, h => by cases h; exact .non
  | .bl _, _, h => by cases h; exact .bl _
  | .int _, _, h => by cases h; exact .int _
  | .str _, _, h => by cases h; exact .str _
  | .tup ds, _, h => by
    cases h with
    | tup hs ha hd hr => exact .tup hs ha hd (Reps.conv k1 k2 k3 ds _ hr)
    | ktup hk hr => exact .ktup (k1 ▸ hk) (Reps.conv k1 k2 k3 ds _ hr)
  | .lst ds, _, h => by
    cases h with
    | lst hs ha hr => exact .lst hs ha (Reps.conv k1 k2 k3 ds _ hr)
  | .dct _, _, h => by cases h
  | .fn _ _, _, h => by cases h with | fn e => exact .fn (k3 ▸ e)
  | .pool, _, h => by cases h with | pool e => exact .pool (k2 ▸ e)
  | .scr _ _, _, h => by
    cases h with
    | scr hi hs ha => exact .scr (k3 ▸ hi) hs ha
    | kscr hi hk => exact .kscr (k3 ▸ hi) (k1 ▸ hk)
theorem Reps.conv (k1 : W.K = W2.K) (k2 : W.P = W2.P) (k3 : W.fn = W2.fn) : ∀ (ds : List D) (vs : List V), Reps W S H vs ds → Reps W2 S H vs ds
  | [], _, h => by cases h; exact .nil
  | d :: ds, _, h => by
    cases h with
    | cons h1 h2 => exact .cons (Rep.conv k1 k2 k3 d _ h1) (Reps.conv k1 k2 k3 ds _ h2)
end
theorem SpF.conv (k1 : W.K = W2.K) (k2 : W.P = W2.P) (k3 : W.fn = W2.fn) (k4 : W.ps = W2.ps) {F : Nat → List D → (D → Prop) → Prop} {f : Nat} {vs : List V} {Q : VK} {E : XK} (h : SpF W F f vs H Q E) : SpF W2 F f vs H Q E := by
  obtain ⟨S, ds, Qd, h1, h2, h3, h4, h5⟩ := h
  have pc : ∀ H p, Pool0 W H p ↔ Pool0 W2 H p := fun H p => by unfold Pool0; rw [k4]
  refine ⟨S, ds, Qd, fun a ha => k2 ▸ h1 a ha, fun p hp => ?_, Reps.conv k1 k2 k3 _ _ h3, h4, fun v H' S' d q1 q2 q3 q4 q5 => h5 v H' S' d (fun a x y => q1 a x (k2 ▸ y)) (fun p hp => (pc H' p).mpr (q2 p (k2 ▸ hp))) q3 (Rep.conv k1.symm k2.symm k3.symm d _ q4) q5⟩
  obtain ⟨g1, g2⟩ := h2 p (k2 ▸ hp)
  exact ⟨k4 ▸ g1, (pc H p).mp g2⟩
end
section
variable {P : Program} {w : World} {K : PySem.W.Frag} {mg : Str → Option Value} {base : Heap} {W : Wd} {Pg : Wg.Prog}
theorem spread_cal (hK : W.K = K) (h0 : W.keep = fun _ => none) (b : Base K mg) (d : DefW T0 K mg "_law_spread" Wg.f_law_spread) : CalW P w K mg base 1 "_law_spread" (SpF W Fsp 2) := by
  have kn : Known K mg T0 W ⟨fun _ => none, fun _ => none⟩ := ⟨hK, h0, b.blt, b.rng, b.zp, b.st, fun g x h => by simp [T0] at h, fun f x h => by simp [T0] at h⟩
  refine fn_ok (k := 0) (F := fun _ _ _ => False) kn d (fun f x h => by simp [T0] at h) fun ds Q ⟨c, e, h⟩ => ?_
  subst e
  obtain ⟨t, ht⟩ := Wg.spread_ok ⟨fun _ => none, fun _ _ _ => False⟩ c
  exact ht Q (h t)
theorem draw_cal (hK : W.K = K) (h0 : W.keep = fun _ => none) (b : Base K mg) (ds : DefW T0 K mg "_law_spread" Wg.f_law_spread) (d : DefW T1 K mg "_law_draw" Wg.f_law_draw) : CalW P w K mg base 2 "_law_draw" (SpF W (Wg.run Pg 0) 0) := by
  obtain ⟨a, qual, params, body, scope, dV, kV, doc, pm, cdv, ct, oc, an, od, osl, N, ps, hm, hk, lk, hcd, FS, hb, hpars, hslots, hchk⟩ := d.ex
  have form : ∀ ds Qd, Wg.run Pg 0 0 ds Qd → ∃ m : Int, ds = [.pool, .int m] ∧ 0 < m ∧ m < 2 ^ 31 ∧ ∀ v : Int, 0 ≤ v → v < m → Qd (.int v) := fun ds Qd h => by
    unfold Wg.run at h
    split at h
    · exact ⟨_, rfl, h⟩
    · exact h.elim
  have len : ∀ vs H Q E, SpF W (Wg.run Pg 0) 0 vs H Q E → vs.length = ps.length := fun vs H Q E ⟨S, ds, Qd, _, _, h3, h4, _⟩ => by
    obtain ⟨m, rfl, _⟩ := form ds Qd h4
    rw [h3.length, hpars]
    rfl
  refine ⟨a, _, ps, hm, hk, hb, fn_of lk hcd FS len fun A outer s H vs Q E hr hsp => ?_⟩
  obtain ⟨S, ds', Qd, h1, h2, h3, h4, h5⟩ := hsp
  obtain ⟨m, rfl, m0, m1, hQ⟩ := form ds' Qd h4
  cases h3 with
  | cons r1 h3 =>
    cases h3 with
    | cons r2 h3 =>
      cases h3
      cases r2
      cases r1 with
      | pool hp =>
        rename_i p
        obtain ⟨hs, ns, i, x, c, z, e1, e2, hi⟩ := h2 p hp
        have hpq : p ≠ W.ps := fun e => (h1 W.ps hs).2 (by rw [← e]; exact hp)
        let W' : Wd := { K := W.K, P := none, ps := W.ps, fn := fun k => if k = 1 then some W.ps else none, keep := fun i => if i = 0 then some (.ref p) else none }
        let W2 : Wd := { K := W.K, P := none, ps := W.ps, fn := fun k => if k = 1 then some W.ps else none }
        have sc : CalW P w K mg base 1 "_law_spread" (SpF W' Fsp 2) := (spread_cal (P := P) (w := w) (base := base) (W := W2) hK rfl b ds).imp fun vs H Q E q => SpF.conv (W := W') (W2 := W2) rfl rfl rfl rfl q
        have hnl : N.length = 5 := hslots
        have only : ∀ j : Nat, isOwn ([Slot.ol [.scr 1 ns, .int i, .int x, .int c, .int z], .sh (.int m), .un, .un, .un] : List Slot)[j]? → j = 0 := fun j o => by
          rcases j with _ | _ | _ | _ | _ | j
          · rfl
          · exact o.elim
          · exact o.elim
          · exact o.elim
          · exact o.elim
          · simp [isOwn] at o
        have r0 : R W' (fun a => H a ≠ none ∧ a ≠ p ∧ a ≠ W.ps) (fun a => a = W.ps) [.ol [.scr 1 ns, .int i, .int x, .int c, .int z], .sh (.int m), .un, .un, .un] (L2.start N [.ref p, .int m]) H := by
          have es : L2.start N [.ref p, .int m] = [some (.ref p), some (.int m), none, none, none] := by
            unfold L2.start
            rw [hnl]
            rfl
          have hcells : Reps W' (fun a => a = W.ps) H [.ref W.ps, .int i, .int x, .int c, .int z] [.scr 1 ns, .int i, .int x, .int c, .int z] :=
            .cons (.scr (fun _ => rfl) rfl (.inl e2)) (.cons (.int i) (.cons (.int x) (.cons (.int c) (.cons (.int z) .nil))))
          rw [es]
          refine ⟨rfl, fun j v e => ?_, fun j d e => ?_, fun j l e => ?_, fun j l e => ?_, fun j1 j2 a o1 o2 q1 q2 => (only j1 o1).trans (only j2 o2).symm, fun a h => ?_, fun a h z => z.2.2 h, fun p hp => nomatch hp⟩
          · by_cases q : j = 0
            · subst q
              cases e
              rfl
            · have : (if j = 0 then some (V.ref p) else none) = some v := e
              rw [if_neg q] at this
              cases this
          · rcases j with _ | _ | _ | _ | _ | j
            · cases e
            · cases e; exact ⟨_, rfl, .int m⟩
            · cases e
            · cases e
            · cases e
            · simp at e
          · rcases j with _ | _ | _ | _ | _ | j
            · cases e; exact ⟨p, _, rfl, e1, ⟨hpq, fun z => z.2.1 rfl, fun z => nomatch z⟩, hcells⟩
            · cases e
            · cases e
            · cases e
            · cases e
            · simp at e
          · rcases j with _ | _ | _ | _ | _ | j <;> first | cases e | simp at e
          · rcases h with h | h
            · subst h; rw [e2]; simp
            · exact h.1
        refine ⟨tW W' fun ρ E => Wg.wSs ⟨fun _ => none, Fsp⟩ Wg.f_law_draw.body ρ E, ?_, ?_⟩
        · refine PSs.nox (snd_Ss (T := T1) (N := N) Wg.f_law_draw.body scope body _ hchk ⟨rfl, hK, rfl, FS.nd, rfl, ?_, b.blt, b.rng, b.zp, b.st, fun f x hf => ?_, fun i hi => ?_, fun g x h => by simp [T1] at h⟩ rfl FS.kind rfl)
          · have := hr.un
            show (A.deeper (envOfC qual scope s.heap.objs.size a cdv)).units + 65 < cLine
            omega
          · have e : f = 2 := by
              by_cases q : f = 2
              · exact q
              · simp [T1, q] at hf
            subst e
            have ex : x = "_law_spread" := by simpa [T1] using hf.symm
            subst ex
            obtain ⟨a', fd', ps', g1, g2, g3, g4⟩ := sc.ex
            exact ⟨a', fd', ps', 1, g1, g2, g3, hr, g4⟩
          · have hi : (i == 0) = false := hi
            show (if i = 0 then some (V.ref p) else none) = none
            rw [if_neg (by simpa using hi)]
        · refine ⟨_, _, _, ⟨fun _ => False, fun d ρ => ∃ (v i x c z : Int) (r : List Slot), d = .int v ∧ 0 ≤ v ∧ v < m ∧ 0 ≤ i ∧ ρ = .ol [.scr 1 ns, .int i, .int x, .int c, .int z] :: r, fun _ => False, fun _ => False⟩, r0,
            Wg.draw_ok ⟨fun _ => none, Fsp⟩ (fun c Q h => ⟨c, rfl, h⟩) ns i x c z m hi m0 m1 _ fun v i x c z r q1 q2 q3 => ⟨v, i, x, c, z, r, rfl, q1, q2, q3, rfl⟩, ⟨fun _ _ _ _ _ _ q => q.elim, fun v H' S' ρ' σ' d e r rv q => ?_, fun _ _ _ _ _ _ q => q.elim, fun _ _ _ _ _ _ q => q.elim⟩⟩
          obtain ⟨v', i', x', c', z', rr, rfl, q1, q2, q3, rfl⟩ := q
          cases rv
          have hk0 := r.keep 0 (.ref p) (by show (if 0 = 0 then some (V.ref p) else none) = _; rfl)
          obtain ⟨b', xs, g1, g2, g3, g4⟩ := r.ol 0 _ rfl
          rw [hk0] at g1
          cases g1
          have hps := e.s W.ps rfl
          refine h5 (.int v') H' (fun _ => False) (.int v') (fun a ha hpa => ?_) (fun p' hp' => ?_) (fun a h => h.elim) (.int v') (hQ v' q1 q2)
          · by_cases c1 : a = W.ps
            · subst c1; exact hps.2
            · exact e.z a ⟨ha, fun z => hpa (by rw [z]; exact hp), c1⟩
          · rw [hp] at hp'
            cases hp'
            cases g4 with
            | cons w1 g4 =>
              cases g4 with
              | cons w2 g4 =>
                cases g4 with
                | cons w3 g4 =>
                  cases g4 with
                  | cons w4 g4 =>
                    cases g4 with
                    | cons w5 g4 =>
                      cases g4
                      cases w2; cases w3; cases w4; cases w5
                      have fin : ∀ u, u = V.ref W.ps → H' p = some (.lst [u, .int i', .int x', .int c', .int z']) → Pool0 W H' p := fun u eu g => by
                        subst eu
                        exact ⟨ns, i', x', c', z', g, hps.2.trans e2, q3⟩
                      refine fin _ ?_ g2
                      cases w1 with
                      | scr hi _ _ => have := hi (by decide); cases this; rfl
                      | kscr hi _ => have := hi (by decide); cases this; rfl
/-! ### a def of the head -/
theorem defW_of {T : Tab} {x : Str} {fn : Wg.Fn} {params : Arguments} {body : List Stmt} {scope : Scope} {f : Addr} {fd : FuncData} {N ps : List Str} (F : FunD K x x params body scope [] [] f fd) (hm : mg x = some (.ref f)) (S : FnScope N ps scope)
    (hb : Binds K fd ps []) (h1 : ps.length = fn.pars) (h2 : N.length = fn.slots) (hc : chkSs T N scope fn.body body = true) : DefW T K mg x fn := by
  obtain ⟨oc, od, dV, kV, doc, pm, an, cdv, ct, osl, rfl, lk, hcd, _, _⟩ := F.ex
  exact ⟨f, x, params, body, scope, dV, kV, doc, pm, cdv, ct, oc, an, od, osl, N, ps, hm, F.kp, lk, hcd, S, hb, h1, h2, hc⟩
/-! ### the law -/
def wdOf (K : PySem.W.Frag) (fnT : Nat → Option Addr) (P : Option Addr) (ps : Addr) : Wd := { K := K, P := P, ps := ps, fn := fnT }
def spLaw (K : PySem.W.Frag) : Sp := fun vs H Q _ => ∃ (a : Addr) (ns : List Int), vs = [.ref a] ∧ SqL K H a (ns.map V.int) ∧ ∀ H', Q (.bl true) H'
theorem law_cal {T : Tab} {fnT : Nat → Option Addr} {n k : Nat} (b : Base K mg)
    (con : ∀ P ps g x, T.con g = some x → ∃ v u d, mg x = some u ∧ RelV v u ∧ Pg.G g = some d ∧ ∀ S H, Rep (wdOf K fnT P ps) S H v d)
    (defs : ∀ f x, T.fn f = some x → f ≠ 0 → ∃ fn, Pg.fns f = some fn ∧ DefW T K mg x fn)
    (ds : DefW T0 K mg "_law_spread" Wg.f_law_spread) (dd : DefW T1 K mg "_law_draw" Wg.f_law_draw) (h0 : ∀ x, T.fn 0 = some x → x = "_law_draw") (hp : Pg.fns 1 = some Wg.f_law_pool)
    {fnL : Wg.Fn} {rest : Sts} {f : Addr} {fd : FuncData} {qual : Str} {params : Arguments} {body : List Stmt} {scope : Scope} {N ps : List Str} (FL : FunD K "law" qual params body scope [] [] f fd) (FS : FnScope N ps scope) (hpars : ps.length = 1) (hslots : N.length = k + 2) (hchk : chkSs T N scope fnL.body body = true)
    (hL : fnL = ⟨k + 2, 1, .c (.asg (.nm 1) (.call 1 (.c (.var 0) .n))) rest⟩)
    (pure : Wg.wSs ⟨Pg.G, Wg.run Pg (n + 1)⟩ rest (.un :: .sh .pool :: List.replicate k .un) ⟨fun _ => False, fun d _ => d = .bl true, fun _ => False, fun _ => False⟩) :
    FnOk P w K mg base CX0 (n + 1 + 2 + 1) f fd ps (spLaw K) := by
  subst hL
  have known : ∀ Pa ps, Known K mg T (wdOf K fnT Pa ps) Pg := fun Pa ps => ⟨rfl, rfl, b.blt, b.rng, b.zp, b.st, con Pa ps, defs⟩
  have ok : ∀ Pa ps f x, T.fn f = some x → CalW P w K mg base (n + 1 + 2) x (SpF (wdOf K fnT Pa ps) (Wg.run Pg (n + 1)) f) := fun Pa ps f x hf =>
    all_ok (known Pa ps) (k0 := 2) (fun x hx => by rw [h0 x hx]; exact draw_cal rfl rfl b ds dd) (n + 1) f x hf
  have len : ∀ vs H Q E, spLaw K vs H Q E → vs.length = ps.length := fun vs H Q E ⟨a, ns, e, _⟩ => by
    subst e
    rw [hpars]
    rfl
  refine FL.ok FS len fun cdv A outer s H vs Q E hr hsp => ?_
  obtain ⟨sa, ns, rfl, hS, hQ⟩ := hsp
  have good : ∀ Pa q, Good T (wdOf K fnT Pa q) ⟨Pg.G, Wg.run Pg (n + 1)⟩ N (cxOf CX0 P w K mg base N qual scope f cdv A outer s H E).nox := fun Pa q => by
    refine ⟨rfl, rfl, rfl, FS.nd, rfl, ?_, b.blt, b.rng, b.zp, b.st, fun f' x hf => ?_, fun _ _ => rfl, con Pa q⟩
    · have := hr.un
      show (A.deeper (envOfC qual scope s.heap.objs.size f cdv)).units + 65 < cLine
      omega
    · obtain ⟨a', fd', ps', g1, g2, g3, g4⟩ := (ok Pa q f' x hf).ex
      exact ⟨a', fd', ps', _, g1, g2, g3, hr, g4⟩
  cases body with
  | nil => unfold chkSs at hchk; cases hchk
  | cons st0 sts =>
    have hchk : (chkS T N scope (.asg (.nm 1) (.call 1 (.c (.var 0) .n))) st0 && chkSs T N scope rest sts) = true := by unfold chkSs at hchk; exact hchk
    simp only [Bool.and_eq_true] at hchk
    have h1 := snd_S (T := T) (N := N) _ scope st0 _ hchk.1 (good none 0) rfl FS.kind rfl
    have h2 : PSs (cxOf CX0 P w K mg base N qual scope f cdv A outer s H E).nox sts (fun D σ H => ∃ p q, tW (wdOf K fnT (some p) q) (fun ρ E => Wg.wSs ⟨Pg.G, Wg.run Pg (n + 1)⟩ rest ρ E) D σ H) :=
      ⟨fun pins s σ H D I ⟨p, q, h⟩ => (snd_Ss (T := T) (N := N) _ scope sts _ hchk.2 (good (some p) q) rfl FS.kind rfl).run pins s σ H D I h⟩
    refine ⟨_, PSs.nox (pss_cons h1 h2), ?_⟩
    have hnl : N.length = k + 2 := hslots
    obtain ⟨t, ht⟩ := Wg.pool_ok ⟨Pg.G, Wg.run Pg n⟩ ns
    -- the state at the entry
    obtain ⟨S, hS1, rep⟩ : ∃ S : AS, (∀ a, S a → H a ≠ none) ∧ Reps (wdOf K fnT none 0) S H [.ref sa] [.scr 0 ns] := by
      rcases hS with hS | hS
      · refine ⟨fun a => a = sa, fun a e => ?_, .cons (.scr (fun h => (h rfl).elim) rfl hS) .nil⟩
        subst e
        rcases hS with h | ⟨o, h⟩ <;> rw [h] <;> simp
      · exact ⟨fun _ => False, fun a e => e.elim, .cons (.kscr (fun h => (h rfl).elim) fun H => .inr hS) .nil⟩
    have r0 := entry (W := wdOf K fnT none 0) (N := N) (k := k + 1) rfl (fun a h => ⟨hS1 a h, fun e => nomatch e⟩) (fun p e => nomatch e) rep (by rw [hnl]; simp; omega)
    let ρ1 : Wg.Env := .sh (.scr 0 ns) :: .sh (.lst [.lst (ns.map .int), .int 0, .int 0, .int 0, .int t]) :: List.replicate k .un
    refine ⟨_, S, _, ⟨fun ρ => ρ = ρ1, fun _ _ => False, fun _ => False, fun _ => False⟩, r0, ?_, ⟨fun σ' H' S' ρ' e r q => ?_, fun _ _ _ _ _ _ _ _ _ q => q.elim, fun _ _ _ _ _ _ q => q.elim, fun _ _ _ _ _ _ q => q.elim⟩⟩
    · show Wg.live _ 0 ∧ Wg.run Pg (n + 1) 1 [.scr 0 ns] _
      refine ⟨trivial, ?_⟩
      show (match Pg.fns 1 with | some fn => Wg.wF ⟨Pg.G, Wg.run Pg n⟩ fn [.scr 0 ns] _ | none => False)
      rw [hp]
      exact ht _ rfl
    · subst q
      obtain ⟨v, g1, g2⟩ := r.sh 1 _ rfl
      cases g2 with
      | lst sp hp' hr' =>
        rename_i p xs
        cases hr' with
        | cons c1 hr' =>
          cases hr' with
          | cons c2 hr' =>
            cases hr' with
            | cons c3 hr' =>
              cases hr' with
              | cons c4 hr' =>
                cases hr' with
                | cons c5 hr' =>
                  cases hr'
                  cases c2; cases c3; cases c4; cases c5
                  cases c1 with
                  | lst sq hq hcells =>
                    rename_i q ys
                    have ey : ys = ns.map V.int := by
                      refine (?_ : ∀ {ns : List Int} {ys : List V}, Reps (wdOf K fnT none 0) S' H' ys (ns.map D.int) → ys = ns.map V.int) hcells
                      intro ns
                      induction ns with
                      | nil => intro ys h; cases h; rfl
                      | cons n ns ih =>
                        intro ys h
                        cases h with
                        | cons a b => cases a; rw [ih b]; rfl
                    subst ey
                    have hpq : p ≠ q := fun z => by
                      subst z
                      rw [hp'] at hq
                      cases ns with
                      | nil => cases hq
                      | cons n ns => cases hq
                    have hl := r.len
                    refine ⟨p, q, fun _ => False, fun a => a = q, .un :: .sh .pool :: List.replicate k .un, _, ?_, pure, ⟨fun _ _ _ _ _ _ q => q.elim, fun v H2 S2 ρ2 σ2 d e2 r2 rv q => ?_, fun _ _ _ _ _ _ q => q.elim, fun _ _ _ _ _ _ q => q.elim⟩⟩
                    · have shape : ∀ (j : Nat) (s : Slot), (.un :: .sh .pool :: List.replicate k .un : Wg.Env)[j]? = some s → (j = 1 ∧ s = .sh .pool) ∨ s = .un := fun j s e => by
                        rcases j with _ | _ | j
                        · cases e; exact .inr rfl
                        · cases e; exact .inl ⟨rfl, rfl⟩
                        · have e : (List.replicate k Slot.un)[j]? = some s := by simpa using e
                          exact .inr (List.eq_of_mem_replicate (List.mem_of_getElem? e))
                      refine ⟨by simpa [ρ1] using hl, fun j v e => (nomatch e), fun j d e => ?_, fun j l e => ?_, fun j l e => ?_, fun j1 j2 a o1 o2 q1 q2 => ?_, fun a h => ?_, fun a h z => z, fun p' hp2 => ?_⟩
                      · rcases shape j _ e with ⟨rfl, e⟩ | e
                        · cases e
                          exact ⟨_, g1, .pool rfl⟩
                        · cases e
                      · rcases shape j _ e with ⟨_, e⟩ | e <;> cases e
                      · rcases shape j _ e with ⟨_, e⟩ | e <;> cases e
                      · exfalso
                        cases z : (.un :: .sh .pool :: List.replicate k .un : Wg.Env)[j1]? with
                        | none => rw [z] at o1; exact o1
                        | some s =>
                          rw [z] at o1
                          rcases shape j1 s z with ⟨_, e⟩ | e <;> subst e <;> exact o1
                      · rcases h with h | h
                        · subst h; rw [hq]; simp
                        · exact h.elim
                      · cases hp2
                        exact ⟨hpq, fun z => z, rfl, ns, 0, 0, 0, t, hp', hq, Int.le_refl 0⟩
                    · subst q
                      cases rv
                      exact hQ H2
end
end WgS
namespace Wg
/-- 65 drawing_steps(board, player, goal); board 0, player 1, goal 2, found 3, step 4, grown 5, fresh 6, spot 7, known 8, way 9 -/
def f_drawing_steps : Fn := ⟨10, 3,
  (.c (.asg (.nm 3) (.lc [7] (.ife (.cmp .inn (.var 7) (.var 2)) (.lit (.int 0)) (.lit .non)) (.nm 7) (.range (.c (.blt .len (.c (.var 0) .n)) .n)) .n))
  (.c (.asg (.nm 4) (.lit (.int 0)))
  (.c (.asg (.nm 5) (.lit (.bl true)))
  (.c (.whl (.var 5) (.c (.aug 4 .add (.lit (.int 1)))
   (.c (.asg (.nm 6) (.lst .n))
   (.c (.for (.nm 7) (.range (.c (.blt .len (.c (.var 0) .n)) .n)) (.c (.iff (.cmp .isN (.idx (.var 3) (.var 7)) (.lit .non)) (.c (.asg (.nm 8) (.lc [9] (.cmp .notN (.idx (.var 3) (.var 9)) (.lit .non)) (.nm 9) (.e (.idx (.idx (.var 0) (.var 7)) (.lit (.int 1)))) .n))
     (.c (.iff (.ife (.cmp .eq (.idx (.idx (.var 0) (.var 7)) (.lit (.int 0))) (.var 1)) (.blt .any (.c (.var 8) .n)) (.blt .all (.c (.var 8) .n))) (.c (.exp (.mth .append (.var 6) (.c (.var 7) .n)))
      .n) .n)
     .n)) .n)
    .n))
   (.c (.for (.nm 7) (.e (.var 6)) (.c (.asg (.sb 3 (.var 7)) (.var 4))
    .n))
   (.c (.asg (.nm 5) (.cmp .gt (.blt .len (.c (.var 6) .n)) (.lit (.int 0))))
   .n))))))
  (.c (.ret (.blt .tuple (.c (.var 3) .n)))
  .n)))))⟩
/-- 67 drawn_in(board, player, goal); board 0, player 1, goal 2, steps 3, spot 4 -/
def f_drawn_in : Fn := ⟨5, 3,
  (.c (.asg (.nm 3) (.call 65 (.c (.var 0) (.c (.var 1) (.c (.var 2) .n)))))
  (.c (.ret (.blt .tuple (.c (.lc [4] (.var 4) (.nm 4) (.range (.c (.blt .len (.c (.var 0) .n)) .n)) (.c (.cmp .notN (.idx (.var 3) (.var 4)) (.lit .non)) .n)) .n)))
  .n))⟩
/-- 209 sums_after(board, tolls, goal, sums); board 0, tolls 1, goal 2, sums 3, found 4, spot 5, owner 6, ways 7, near 8, known 9, way 10, number 11 -/
def f_sums_after : Fn := ⟨12, 4,
  (.c (.asg (.nm 4) (.lst .n))
  (.c (.for (.nm 5) (.range (.c (.blt .len (.c (.var 0) .n)) .n)) (.c (.asg (.tp (.c (.nm 6) (.c (.nm 7) .n))) (.idx (.var 0) (.var 5)))
   (.c (.asg (.nm 8) (.lc [10] (.idx (.var 3) (.var 10)) (.nm 10) (.e (.var 7)) .n))
   (.c (.asg (.nm 9) (.lc [11] (.var 11) (.nm 11) (.e (.var 8)) (.c (.cmp .notN (.var 11) (.lit .non)) .n)))
   (.c (.iff (.cmp .inn (.var 5) (.var 2)) (.c (.exp (.mth .append (.var 4) (.c (.lit (.int 0)) .n)))
    .n) (.c (.iff (.or (.cmp .eq (.blt .len (.c (.var 9) .n)) (.lit (.int 0))) (.and (.cmp .eq (.var 6) (.lit (.int 1))) (.cmp .lt (.blt .len (.c (.var 9) .n)) (.blt .len (.c (.var 8) .n))))) (.c (.exp (.mth .append (.var 4) (.c (.lit .non) .n)))
     .n) (.c (.exp (.mth .append (.var 4) (.c (.bin .add (.idx (.var 1) (.var 5)) (.ife (.cmp .eq (.var 6) (.lit (.int 0))) (.blt .min (.c (.var 9) .n)) (.blt .max (.c (.var 9) .n)))) .n)))
     .n))
    .n))
   .n)))))
  (.c (.ret (.blt .tuple (.c (.var 4) .n)))
  .n)))⟩
/-- 210 sums_by_moves(board, tolls, goal); board 0, tolls 1, goal 2, found 3, after 4, spot 5 -/
def f_sums_by_moves : Fn := ⟨6, 3,
  (.c (.asg (.nm 3) (.lst (.c (.blt .tuple (.c (.lc [5] (.ife (.cmp .inn (.var 5) (.var 2)) (.lit (.int 0)) (.lit .non)) (.nm 5) (.range (.c (.blt .len (.c (.var 0) .n)) .n)) .n) .n)) .n)))
  (.c (.whl (.lit (.bl true)) (.c (.asg (.nm 4) (.call 209 (.c (.var 0) (.c (.var 1) (.c (.var 2) (.c (.idx (.var 3) (.neg (.lit (.int 1)))) .n))))))
   (.c (.iff (.cmp .eq (.var 4) (.idx (.var 3) (.neg (.lit (.int 1))))) (.c (.ret (.var 3))
    .n) .n)
   (.c (.exp (.mth .append (.var 3) (.c (.var 4) .n)))
   .n))))
  .n))⟩
/-- 141 least_tolls(board, tolls, goal); board 0, tolls 1, goal 2 -/
def f_least_tolls : Fn := ⟨3, 3,
  (.c (.ret (.idx (.call 210 (.c (.var 0) (.c (.var 1) (.c (.var 2) .n)))) (.neg (.lit (.int 1)))))
  .n)⟩
/-- 162 need_of(board, gains, numbers, spot); board 0, gains 1, numbers 2, spot 3, owner 4, ways 5, near 6, known 7, way 8, number 9 -/
def f_need_of : Fn := ⟨10, 4,
  (.c (.asg (.tp (.c (.nm 4) (.c (.nm 5) .n))) (.idx (.var 0) (.var 3)))
  (.c (.asg (.nm 6) (.lc [8] (.idx (.var 2) (.var 8)) (.nm 8) (.e (.var 5)) .n))
  (.c (.asg (.nm 7) (.lc [9] (.var 9) (.nm 9) (.e (.var 6)) (.c (.cmp .notN (.var 9) (.lit .non)) .n)))
  (.c (.iff (.or (.cmp .eq (.blt .len (.c (.var 7) .n)) (.lit (.int 0))) (.and (.cmp .eq (.var 4) (.lit (.int 1))) (.cmp .lt (.blt .len (.c (.var 7) .n)) (.blt .len (.c (.var 6) .n))))) (.c (.ret (.lit .non))
   .n) .n)
  (.c (.ret (.blt .max (.c (.lit (.int 0)) (.c (.neg (.idx (.var 1) (.var 3))) (.c (.bin .sub (.ife (.cmp .eq (.var 4) (.lit (.int 0))) (.blt .min (.c (.var 7) .n)) (.blt .max (.c (.var 7) .n))) (.idx (.var 1) (.var 3))) .n)))))
  .n)))))⟩
/-- 198 risen(board, gains, top); board 0, gains 1, top 2, found 3, grown 4, spot 5, need 6 -/
def f_risen : Fn := ⟨7, 3,
  (.c (.asg (.nm 3) (.bin .mul (.lst (.c (.lit (.int 0)) .n)) (.blt .len (.c (.var 0) .n))))
  (.c (.asg (.nm 4) (.lit (.bl true)))
  (.c (.whl (.var 4) (.c (.asg (.nm 4) (.lit (.bl false)))
   (.c (.for (.nm 5) (.range (.c (.blt .len (.c (.var 0) .n)) .n)) (.c (.asg (.nm 6) (.call 162 (.c (.var 0) (.c (.var 1) (.c (.var 3) (.c (.var 5) .n))))))
    (.c (.asg (.nm 6) (.ife (.or (.cmp .isN (.var 6) (.lit .non)) (.cmp .gt (.var 6) (.var 2))) (.lit .non) (.var 6)))
    (.c (.iff (.and (.cmp .ne (.var 6) (.idx (.var 3) (.var 5))) (.cmp .notN (.idx (.var 3) (.var 5)) (.lit .non))) (.c (.asg (.sb 3 (.var 5)) (.var 6))
     (.c (.asg (.nm 4) (.lit (.bl true)))
     .n)) .n)
    .n))))
   .n)))
  (.c (.ret (.blt .tuple (.c (.var 3) .n)))
  .n))))⟩
/-- 140 least_stores(board, gains); board 0, gains 1, gain 2 -/
def f_least_stores : Fn := ⟨3, 2,
  (.c (.ret (.call 198 (.c (.var 0) (.c (.var 1) (.c (.bin .mul (.blt .len (.c (.var 0) .n)) (.blt .max (.c (.lc [2] (.blt .abs (.c (.var 2) .n)) (.nm 2) (.e (.var 1)) .n) .n))) .n)))))
  .n)⟩
/-- 27 _law_shuffled(pool, items); pool 0, items 1, left 2, found 3, at 4 -/
def f_law_shuffled : Fn := ⟨5, 2,
  (.c (.asg (.nm 2) (.blt .list (.c (.var 1) .n)))
  (.c (.asg (.nm 3) (.lst .n))
  (.c (.whl (.cmp .gt (.blt .len (.c (.var 2) .n)) (.lit (.int 0))) (.c (.asg (.nm 4) (.call 0 (.c (.var 0) (.c (.blt .len (.c (.var 2) .n)) .n))))
   (.c (.exp (.mth .append (.var 3) (.c (.idx (.var 2) (.var 4)) .n)))
   (.c (.asg (.nm 2) (.bin .add (.slc (.var 2) .noPart (.var 4)) (.slc (.var 2) (.bin .add (.var 4) (.lit (.int 1))) .noPart)))
   .n))))
  (.c (.ret (.blt .tuple (.c (.var 3) .n)))
  .n))))⟩
/-- 6 _law_board(pool, most); pool 0, most 1, m 2, found 3, k 4, ways 5 -/
def f_law_board : Fn := ⟨6, 2,
  (.c (.asg (.nm 2) (.bin .add (.lit (.int 1)) (.blt .max (.c (.call 0 (.c (.var 0) (.c (.var 1) .n))) (.c (.call 0 (.c (.var 0) (.c (.var 1) .n))) .n)))))
  (.c (.asg (.nm 3) (.tup .n))
  (.c (.for (.nm 4) (.range (.c (.var 2) .n)) (.c (.asg (.nm 5) (.slc (.call 27 (.c (.var 0) (.c (.rng true (.c (.var 2) .n)) .n))) .noPart (.bin .add (.lit (.int 1)) (.call 0 (.c (.var 0) (.c (.lit (.int 3)) .n))))))
   (.c (.asg (.nm 3) (.bin .add (.var 3) (.tup (.c (.tup (.c (.call 0 (.c (.var 0) (.c (.lit (.int 2)) .n))) (.c (.blt .tuple (.c (.blt .sorted (.c (.var 5) .n)) .n)) .n))) .n))))
   .n)))
  (.c (.ret (.var 3))
  .n))))⟩
/-- 24 _law_set(pool, m); pool 0, m 1, k 2 -/
def f_law_set : Fn := ⟨3, 2,
  (.c (.ret (.blt .tuple (.c (.lc [2] (.var 2) (.nm 2) (.range (.c (.var 1) .n)) (.c (.cmp .eq (.call 0 (.c (.var 0) (.c (.lit (.int 2)) .n))) (.lit (.int 0))) .n)) .n)))
  .n)⟩
/-- 121 law_k47(script); script 0, pool 1, board 2, m 3, goal 4, tolls 5, paid 6, ended 7, gains 8, more 9, a 10, b 11, k 12, wider 13, s 14, x 15 -/
def f_law_k47 : Fn := ⟨16, 1,
  (.c (.asg (.nm 1) (.call 1 (.c (.var 0) .n)))
  (.c (.asg (.nm 2) (.call 6 (.c (.var 1) (.c (.lit (.int 5)) .n))))
  (.c (.asg (.nm 3) (.blt .len (.c (.var 2) .n)))
  (.c (.asg (.nm 4) (.call 24 (.c (.var 1) (.c (.var 3) .n))))
  (.c (.asg (.nm 5) (.blt .tuple (.c (.lc [12] (.bin .add (.lit (.int 1)) (.call 0 (.c (.var 1) (.c (.lit (.int 9)) .n)))) (.nm 12) (.range (.c (.var 3) .n)) .n) .n)))
  (.c (.asg (.nm 6) (.call 141 (.c (.var 2) (.c (.var 5) (.c (.var 4) .n)))))
  (.c (.asg (.nm 7) (.blt .tuple (.c (.lc [14] (.ife (.cmp .inn (.var 14) (.var 4)) (.tup (.c (.idx (.idx (.var 2) (.var 14)) (.lit (.int 0))) (.c (.tup (.c (.var 14) .n)) .n))) (.idx (.var 2) (.var 14))) (.nm 14) (.range (.c (.var 3) .n)) .n) .n)))
  (.c (.asg (.nm 8) (.blt .tuple (.c (.lc [14] (.ife (.cmp .inn (.var 14) (.var 4)) (.lit (.int 0)) (.bin .sub (.lit (.int 0)) (.idx (.var 5) (.var 14)))) (.nm 14) (.range (.c (.var 3) .n)) .n) .n)))
  (.c (.iff (.or (.cmp .ne (.call 140 (.c (.var 7) (.c (.var 8) .n))) (.var 6)) (.cmp .ne (.call 141 (.c (.var 7) (.c (.var 5) (.c (.var 4) .n)))) (.var 6))) (.c (.ret (.lit (.bl false)))
   .n) .n)
  (.c (.iff (.cmp .ne (.call 141 (.c (.var 2) (.c (.bin .mul (.tup (.c (.lit (.int 1)) .n)) (.var 3)) (.c (.var 4) .n)))) (.call 65 (.c (.var 2) (.c (.lit (.int 0)) (.c (.var 4) .n))))) (.c (.ret (.lit (.bl false)))
   .n) .n)
  (.c (.asg (.nm 9) (.blt .tuple (.c (.lc [15] (.bin .add (.var 15) (.call 0 (.c (.var 1) (.c (.lit (.int 3)) .n)))) (.nm 15) (.e (.var 5)) .n) .n)))
  (.c (.for (.tp (.c (.nm 10) (.c (.nm 11) .n))) (.zip (.c (.var 6) (.c (.call 141 (.c (.var 2) (.c (.var 9) (.c (.var 4) .n)))) .n))) (.c (.iff (.or (.cmp .ne (.cmp .isN (.var 10) (.lit .non)) (.cmp .isN (.var 11) (.lit .non))) (.and (.cmp .notN (.var 10) (.lit .non)) (.cmp .lt (.var 11) (.var 10)))) (.c (.ret (.lit (.bl false)))
    .n) .n)
   .n))
  (.c (.asg (.nm 12) (.bin .add (.lit (.int 2)) (.call 0 (.c (.var 1) (.c (.lit (.int 3)) .n)))))
  (.c (.iff (.cmp .ne (.call 141 (.c (.var 2) (.c (.blt .tuple (.c (.lc [15] (.bin .mul (.var 12) (.var 15)) (.nm 15) (.e (.var 5)) .n) .n)) (.c (.var 4) .n)))) (.blt .tuple (.c (.lc [15] (.ife (.cmp .isN (.var 15) (.lit .non)) (.lit .non) (.bin .mul (.var 12) (.var 15))) (.nm 15) (.e (.var 6)) .n) .n))) (.c (.ret (.lit (.bl false)))
   .n) .n)
  (.c (.asg (.nm 13) (.blt .tuple (.c (.blt .sortedSet (.c (.bin .add (.var 4) (.tup (.c (.call 0 (.c (.var 1) (.c (.var 3) .n))) .n))) .n)) .n)))
  (.c (.for (.tp (.c (.nm 10) (.c (.nm 11) .n))) (.zip (.c (.var 6) (.c (.call 141 (.c (.var 2) (.c (.var 5) (.c (.var 13) .n)))) .n))) (.c (.iff (.and (.cmp .notN (.var 10) (.lit .non)) (.or (.cmp .isN (.var 11) (.lit .non)) (.cmp .gt (.var 11) (.var 10)))) (.c (.ret (.lit (.bl false)))
    .n) .n)
   .n))
  (.c (.ret (.cmp .eq (.blt .tuple (.c (.lc [14] (.var 14) (.nm 14) (.range (.c (.var 3) .n)) (.c (.cmp .notN (.idx (.var 6) (.var 14)) (.lit .non)) .n)) .n)) (.call 67 (.c (.var 2) (.c (.lit (.int 0)) (.c (.var 4) .n))))))
  .n)))))))))))))))))⟩
end Wg
set_option maxHeartbeats 0
/-! the head of this law -/
namespace WgHead
open PySem PySem.Spec PyProof.Rows L2 WgS
open Wg (D Ex Exs Sts)
abbrev PG : PySem.Program := PySem.Challenge.pw_wishgames_k47_whole_tolls_and_stores
def top (i : Nat) : Stmt := PySem.Challenge.pw_wishgames_k47_whole_tolls_and_stores.main.body.getD i (.Pass ⟨0, 0, 0, 0⟩)
abbrev s_drawing_steps : Stmt := top 1
abbrev s_drawn_in : Stmt := top 2
abbrev s_sums_after : Stmt := top 4
abbrev s_sums_by_moves : Stmt := top 5
abbrev s_least_tolls : Stmt := top 6
abbrev s_need_of : Stmt := top 8
abbrev s_risen : Stmt := top 9
abbrev s_least_stores : Stmt := top 10
abbrev s_law_pool : Stmt := top 12
abbrev s_law_spread : Stmt := top 13
abbrev s_law_draw : Stmt := top 14
abbrev s_law_shuffled : Stmt := top 15
abbrev s_law_board : Stmt := top 16
abbrev s_law_set : Stmt := top 17
abbrev s_law : Stmt := top 18
def tabF (f : Nat) : Option Str := match f with
  | 0 => some "_law_draw"
  | 1 => some "_law_pool"
  | 2 => some "_law_spread"
  | 6 => some "_law_board"
  | 24 => some "_law_set"
  | 27 => some "_law_shuffled"
  | 65 => some "drawing_steps"
  | 67 => some "drawn_in"
  | 140 => some "least_stores"
  | 141 => some "least_tolls"
  | 162 => some "need_of"
  | 198 => some "risen"
  | 209 => some "sums_after"
  | 210 => some "sums_by_moves"
  | _ => none
def T : Tab := ⟨tabF, fun _ => none, fun _ => false⟩
def fns (f : Nat) : Option Wg.Fn := match f with
  | 1 => some Wg.f_law_pool
  | 2 => some Wg.f_law_spread
  | 6 => some Wg.f_law_board
  | 24 => some Wg.f_law_set
  | 27 => some Wg.f_law_shuffled
  | 65 => some Wg.f_drawing_steps
  | 67 => some Wg.f_drawn_in
  | 140 => some Wg.f_least_stores
  | 141 => some Wg.f_least_tolls
  | 162 => some Wg.f_need_of
  | 198 => some Wg.f_risen
  | 209 => some Wg.f_sums_after
  | 210 => some Wg.f_sums_by_moves
  | _ => none
def Pg : Wg.Prog := ⟨fun _ => none, fns⟩
def d_drawing_steps : He.DefD := ⟨("drawing_steps", none), "drawing_steps", "drawing_steps", defArgs s_drawing_steps, defBody s_drawing_steps, defScope s_drawing_steps, [], []⟩
def d_drawn_in : He.DefD := ⟨("drawn_in", none), "drawn_in", "drawn_in", defArgs s_drawn_in, defBody s_drawn_in, defScope s_drawn_in, [], []⟩
def d_sums_after : He.DefD := ⟨("sums_after", none), "sums_after", "sums_after", defArgs s_sums_after, defBody s_sums_after, defScope s_sums_after, [], []⟩
def d_sums_by_moves : He.DefD := ⟨("sums_by_moves", none), "sums_by_moves", "sums_by_moves", defArgs s_sums_by_moves, defBody s_sums_by_moves, defScope s_sums_by_moves, [], []⟩
def d_least_tolls : He.DefD := ⟨("least_tolls", none), "least_tolls", "least_tolls", defArgs s_least_tolls, defBody s_least_tolls, defScope s_least_tolls, [], []⟩
def d_need_of : He.DefD := ⟨("need_of", none), "need_of", "need_of", defArgs s_need_of, defBody s_need_of, defScope s_need_of, [], []⟩
def d_risen : He.DefD := ⟨("risen", none), "risen", "risen", defArgs s_risen, defBody s_risen, defScope s_risen, [], []⟩
def d_least_stores : He.DefD := ⟨("least_stores", none), "least_stores", "least_stores", defArgs s_least_stores, defBody s_least_stores, defScope s_least_stores, [], []⟩
def d_law_pool : He.DefD := ⟨("_law_pool", none), "_law_pool", "_law_pool", defArgs s_law_pool, defBody s_law_pool, defScope s_law_pool, [], []⟩
def d_law_spread : He.DefD := ⟨("_law_spread", none), "_law_spread", "_law_spread", defArgs s_law_spread, defBody s_law_spread, defScope s_law_spread, [], []⟩
def d_law_draw : He.DefD := ⟨("_law_draw", none), "_law_draw", "_law_draw", defArgs s_law_draw, defBody s_law_draw, defScope s_law_draw, [], []⟩
def d_law_shuffled : He.DefD := ⟨("_law_shuffled", none), "_law_shuffled", "_law_shuffled", defArgs s_law_shuffled, defBody s_law_shuffled, defScope s_law_shuffled, [], []⟩
def d_law_board : He.DefD := ⟨("_law_board", none), "_law_board", "_law_board", defArgs s_law_board, defBody s_law_board, defScope s_law_board, [], []⟩
def d_law_set : He.DefD := ⟨("_law_set", none), "_law_set", "_law_set", defArgs s_law_set, defBody s_law_set, defScope s_law_set, [], []⟩
def d_law : He.DefD := ⟨("law", none), "law", "law", defArgs s_law, defBody s_law, defScope s_law, [], []⟩
def fn : List He.DefD := [d_drawing_steps, d_drawn_in, d_sums_after, d_sums_by_moves, d_least_tolls, d_need_of, d_risen, d_least_stores, d_law_pool, d_law_spread, d_law_draw, d_law_shuffled, d_law_board, d_law_set, d_law]
def fa : List He.Fa := [.glo "drawing_steps", .glo "drawn_in", .glo "sums_after", .glo "sums_by_moves", .glo "least_tolls", .glo "need_of", .glo "risen", .glo "least_stores", .glo "_law_pool", .glo "_law_spread", .glo "_law_draw", .glo "_law_shuffled", .glo "_law_board", .glo "_law_set", .glo "law", .free "len", .free "tuple", .free "list", .free "sorted", .free "min", .free "max", .free "sum", .free "abs", .free "int", .free "all", .free "any", .free "range", .free "zip", .free "set"]
abbrev R : PySem.W.OpenRow := PySem.W.OpenLaw.row PySem.Challenge.rw_wishgames_k47_whole_tolls_and_stores
abbrev hk : PySem.W.Hook := He.hookD 4 fa fn
def ob (s : PySem.W.SharedT) : He.AlD := He.obsDG 4 fa fn (HandSHeadRun.getT s)
theorem ob_eq (s : PySem.W.SharedT) : ob s = hk.obs s.abs := He.obsDG_eq (HandSHeadRun.getT_eq s)
abbrev loose : List PySem.Str := ["drawing_steps", "drawn_in", "sums_after", "sums_by_moves", "least_tolls", "need_of", "risen", "least_stores", "_law_pool", "_law_spread", "_law_draw", "_law_shuffled", "_law_board", "_law_set"]
theorem run (w : World) : HandSHeadRun.RunEq R (PySem.W.view R.prog [18]) hk ob 1000 loose w := by
  intro os
  kernel_rfl
theorem c_drawing_steps : chkSs T (["board", "player", "goal", "found", "step", "grown", "fresh", "spot", "known", "way"] : List Str) (defScope s_drawing_steps) Wg.f_drawing_steps.body (defBody s_drawing_steps) = true := by kernel_rfl
theorem w_drawing_steps {tb : Tab} {K : PySem.W.Frag} {mg : Str → Option Value} {f : Addr} {fd : FuncData} (F : FunD K "drawing_steps" "drawing_steps" (defArgs s_drawing_steps) (defBody s_drawing_steps) (defScope s_drawing_steps) [] [] f fd) (hm : mg "drawing_steps" = some (.ref f)) (hc : chkSs tb (["board", "player", "goal", "found", "step", "grown", "fresh", "spot", "known", "way"] : List Str) (defScope s_drawing_steps) Wg.f_drawing_steps.body (defBody s_drawing_steps) = true) : DefW tb K mg "drawing_steps" Wg.f_drawing_steps :=
  defW_of F hm (C8.fnScope_by (N := ["board", "player", "goal", "found", "step", "grown", "fresh", "spot", "known", "way"]) (P := ["board", "player", "goal"]) (by kernel_rfl)) (F.bindsN fun _ _ _ _ _ _ us hl => match us, hl with | [_, _, _], _ => rfl) rfl rfl hc
theorem c_drawn_in : chkSs T (["board", "player", "goal", "steps", "spot"] : List Str) (defScope s_drawn_in) Wg.f_drawn_in.body (defBody s_drawn_in) = true := by kernel_rfl
theorem w_drawn_in {tb : Tab} {K : PySem.W.Frag} {mg : Str → Option Value} {f : Addr} {fd : FuncData} (F : FunD K "drawn_in" "drawn_in" (defArgs s_drawn_in) (defBody s_drawn_in) (defScope s_drawn_in) [] [] f fd) (hm : mg "drawn_in" = some (.ref f)) (hc : chkSs tb (["board", "player", "goal", "steps", "spot"] : List Str) (defScope s_drawn_in) Wg.f_drawn_in.body (defBody s_drawn_in) = true) : DefW tb K mg "drawn_in" Wg.f_drawn_in :=
  defW_of F hm (C8.fnScope_by (N := ["board", "player", "goal", "steps", "spot"]) (P := ["board", "player", "goal"]) (by kernel_rfl)) (F.bindsN fun _ _ _ _ _ _ us hl => match us, hl with | [_, _, _], _ => rfl) rfl rfl hc
theorem c_sums_after : chkSs T (["board", "tolls", "goal", "sums", "found", "spot", "owner", "ways", "near", "known", "way", "number"] : List Str) (defScope s_sums_after) Wg.f_sums_after.body (defBody s_sums_after) = true := by kernel_rfl
theorem w_sums_after {tb : Tab} {K : PySem.W.Frag} {mg : Str → Option Value} {f : Addr} {fd : FuncData} (F : FunD K "sums_after" "sums_after" (defArgs s_sums_after) (defBody s_sums_after) (defScope s_sums_after) [] [] f fd) (hm : mg "sums_after" = some (.ref f)) (hc : chkSs tb (["board", "tolls", "goal", "sums", "found", "spot", "owner", "ways", "near", "known", "way", "number"] : List Str) (defScope s_sums_after) Wg.f_sums_after.body (defBody s_sums_after) = true) : DefW tb K mg "sums_after" Wg.f_sums_after :=
  defW_of F hm (C8.fnScope_by (N := ["board", "tolls", "goal", "sums", "found", "spot", "owner", "ways", "near", "known", "way", "number"]) (P := ["board", "tolls", "goal", "sums"]) (by kernel_rfl)) (F.bindsN fun _ _ _ _ _ _ us hl => match us, hl with | [_, _, _, _], _ => rfl) rfl rfl hc
theorem c_sums_by_moves : chkSs T (["board", "tolls", "goal", "found", "after", "spot"] : List Str) (defScope s_sums_by_moves) Wg.f_sums_by_moves.body (defBody s_sums_by_moves) = true := by kernel_rfl
theorem w_sums_by_moves {tb : Tab} {K : PySem.W.Frag} {mg : Str → Option Value} {f : Addr} {fd : FuncData} (F : FunD K "sums_by_moves" "sums_by_moves" (defArgs s_sums_by_moves) (defBody s_sums_by_moves) (defScope s_sums_by_moves) [] [] f fd) (hm : mg "sums_by_moves" = some (.ref f)) (hc : chkSs tb (["board", "tolls", "goal", "found", "after", "spot"] : List Str) (defScope s_sums_by_moves) Wg.f_sums_by_moves.body (defBody s_sums_by_moves) = true) : DefW tb K mg "sums_by_moves" Wg.f_sums_by_moves :=
  defW_of F hm (C8.fnScope_by (N := ["board", "tolls", "goal", "found", "after", "spot"]) (P := ["board", "tolls", "goal"]) (by kernel_rfl)) (F.bindsN fun _ _ _ _ _ _ us hl => match us, hl with | [_, _, _], _ => rfl) rfl rfl hc
theorem c_least_tolls : chkSs T (["board", "tolls", "goal"] : List Str) (defScope s_least_tolls) Wg.f_least_tolls.body (defBody s_least_tolls) = true := by kernel_rfl
theorem w_least_tolls {tb : Tab} {K : PySem.W.Frag} {mg : Str → Option Value} {f : Addr} {fd : FuncData} (F : FunD K "least_tolls" "least_tolls" (defArgs s_least_tolls) (defBody s_least_tolls) (defScope s_least_tolls) [] [] f fd) (hm : mg "least_tolls" = some (.ref f)) (hc : chkSs tb (["board", "tolls", "goal"] : List Str) (defScope s_least_tolls) Wg.f_least_tolls.body (defBody s_least_tolls) = true) : DefW tb K mg "least_tolls" Wg.f_least_tolls :=
  defW_of F hm (C8.fnScope_by (N := ["board", "tolls", "goal"]) (P := ["board", "tolls", "goal"]) (by kernel_rfl)) (F.bindsN fun _ _ _ _ _ _ us hl => match us, hl with | [_, _, _], _ => rfl) rfl rfl hc
theorem c_need_of : chkSs T (["board", "gains", "numbers", "spot", "owner", "ways", "near", "known", "way", "number"] : List Str) (defScope s_need_of) Wg.f_need_of.body (defBody s_need_of) = true := by kernel_rfl
theorem w_need_of {tb : Tab} {K : PySem.W.Frag} {mg : Str → Option Value} {f : Addr} {fd : FuncData} (F : FunD K "need_of" "need_of" (defArgs s_need_of) (defBody s_need_of) (defScope s_need_of) [] [] f fd) (hm : mg "need_of" = some (.ref f)) (hc : chkSs tb (["board", "gains", "numbers", "spot", "owner", "ways", "near", "known", "way", "number"] : List Str) (defScope s_need_of) Wg.f_need_of.body (defBody s_need_of) = true) : DefW tb K mg "need_of" Wg.f_need_of :=
  defW_of F hm (C8.fnScope_by (N := ["board", "gains", "numbers", "spot", "owner", "ways", "near", "known", "way", "number"]) (P := ["board", "gains", "numbers", "spot"]) (by kernel_rfl)) (F.bindsN fun _ _ _ _ _ _ us hl => match us, hl with | [_, _, _, _], _ => rfl) rfl rfl hc
theorem c_risen : chkSs T (["board", "gains", "top", "found", "grown", "spot", "need"] : List Str) (defScope s_risen) Wg.f_risen.body (defBody s_risen) = true := by kernel_rfl
theorem w_risen {tb : Tab} {K : PySem.W.Frag} {mg : Str → Option Value} {f : Addr} {fd : FuncData} (F : FunD K "risen" "risen" (defArgs s_risen) (defBody s_risen) (defScope s_risen) [] [] f fd) (hm : mg "risen" = some (.ref f)) (hc : chkSs tb (["board", "gains", "top", "found", "grown", "spot", "need"] : List Str) (defScope s_risen) Wg.f_risen.body (defBody s_risen) = true) : DefW tb K mg "risen" Wg.f_risen :=
  defW_of F hm (C8.fnScope_by (N := ["board", "gains", "top", "found", "grown", "spot", "need"]) (P := ["board", "gains", "top"]) (by kernel_rfl)) (F.bindsN fun _ _ _ _ _ _ us hl => match us, hl with | [_, _, _], _ => rfl) rfl rfl hc
theorem c_least_stores : chkSs T (["board", "gains", "gain"] : List Str) (defScope s_least_stores) Wg.f_least_stores.body (defBody s_least_stores) = true := by kernel_rfl
theorem w_least_stores {tb : Tab} {K : PySem.W.Frag} {mg : Str → Option Value} {f : Addr} {fd : FuncData} (F : FunD K "least_stores" "least_stores" (defArgs s_least_stores) (defBody s_least_stores) (defScope s_least_stores) [] [] f fd) (hm : mg "least_stores" = some (.ref f)) (hc : chkSs tb (["board", "gains", "gain"] : List Str) (defScope s_least_stores) Wg.f_least_stores.body (defBody s_least_stores) = true) : DefW tb K mg "least_stores" Wg.f_least_stores :=
  defW_of F hm (C8.fnScope_by (N := ["board", "gains", "gain"]) (P := ["board", "gains"]) (by kernel_rfl)) (F.bindsN fun _ _ _ _ _ _ us hl => match us, hl with | [_, _], _ => rfl) rfl rfl hc
theorem c_law_pool : chkSs T (["script", "salt", "cell"] : List Str) (defScope s_law_pool) Wg.f_law_pool.body (defBody s_law_pool) = true := by kernel_rfl
theorem w_law_pool {tb : Tab} {K : PySem.W.Frag} {mg : Str → Option Value} {f : Addr} {fd : FuncData} (F : FunD K "_law_pool" "_law_pool" (defArgs s_law_pool) (defBody s_law_pool) (defScope s_law_pool) [] [] f fd) (hm : mg "_law_pool" = some (.ref f)) (hc : chkSs tb (["script", "salt", "cell"] : List Str) (defScope s_law_pool) Wg.f_law_pool.body (defBody s_law_pool) = true) : DefW tb K mg "_law_pool" Wg.f_law_pool :=
  defW_of F hm (C8.fnScope_by (N := ["script", "salt", "cell"]) (P := ["script"]) (by kernel_rfl)) (F.bindsN fun _ _ _ _ _ _ us hl => match us, hl with | [_], _ => rfl) rfl rfl hc
theorem c_law_spread : chkSs T0 (["cell", "mixed", "total", "k"] : List Str) (defScope s_law_spread) Wg.f_law_spread.body (defBody s_law_spread) = true := by kernel_rfl
theorem w_law_spread {tb : Tab} {K : PySem.W.Frag} {mg : Str → Option Value} {f : Addr} {fd : FuncData} (F : FunD K "_law_spread" "_law_spread" (defArgs s_law_spread) (defBody s_law_spread) (defScope s_law_spread) [] [] f fd) (hm : mg "_law_spread" = some (.ref f)) (hc : chkSs tb (["cell", "mixed", "total", "k"] : List Str) (defScope s_law_spread) Wg.f_law_spread.body (defBody s_law_spread) = true) : DefW tb K mg "_law_spread" Wg.f_law_spread :=
  defW_of F hm (C8.fnScope_by (N := ["cell", "mixed", "total", "k"]) (P := ["cell"]) (by kernel_rfl)) (F.bindsN fun _ _ _ _ _ _ us hl => match us, hl with | [_], _ => rfl) rfl rfl hc
theorem c_law_draw : chkSs T1 (["pool", "many", "cell", "mixed", "value"] : List Str) (defScope s_law_draw) Wg.f_law_draw.body (defBody s_law_draw) = true := by kernel_rfl
theorem w_law_draw {tb : Tab} {K : PySem.W.Frag} {mg : Str → Option Value} {f : Addr} {fd : FuncData} (F : FunD K "_law_draw" "_law_draw" (defArgs s_law_draw) (defBody s_law_draw) (defScope s_law_draw) [] [] f fd) (hm : mg "_law_draw" = some (.ref f)) (hc : chkSs tb (["pool", "many", "cell", "mixed", "value"] : List Str) (defScope s_law_draw) Wg.f_law_draw.body (defBody s_law_draw) = true) : DefW tb K mg "_law_draw" Wg.f_law_draw :=
  defW_of F hm (C8.fnScope_by (N := ["pool", "many", "cell", "mixed", "value"]) (P := ["pool", "many"]) (by kernel_rfl)) (F.bindsN fun _ _ _ _ _ _ us hl => match us, hl with | [_, _], _ => rfl) rfl rfl hc
theorem c_law_shuffled : chkSs T (["pool", "items", "left", "found", "at"] : List Str) (defScope s_law_shuffled) Wg.f_law_shuffled.body (defBody s_law_shuffled) = true := by kernel_rfl
theorem w_law_shuffled {tb : Tab} {K : PySem.W.Frag} {mg : Str → Option Value} {f : Addr} {fd : FuncData} (F : FunD K "_law_shuffled" "_law_shuffled" (defArgs s_law_shuffled) (defBody s_law_shuffled) (defScope s_law_shuffled) [] [] f fd) (hm : mg "_law_shuffled" = some (.ref f)) (hc : chkSs tb (["pool", "items", "left", "found", "at"] : List Str) (defScope s_law_shuffled) Wg.f_law_shuffled.body (defBody s_law_shuffled) = true) : DefW tb K mg "_law_shuffled" Wg.f_law_shuffled :=
  defW_of F hm (C8.fnScope_by (N := ["pool", "items", "left", "found", "at"]) (P := ["pool", "items"]) (by kernel_rfl)) (F.bindsN fun _ _ _ _ _ _ us hl => match us, hl with | [_, _], _ => rfl) rfl rfl hc
theorem c_law_board : chkSs T (["pool", "most", "m", "found", "k", "ways"] : List Str) (defScope s_law_board) Wg.f_law_board.body (defBody s_law_board) = true := by kernel_rfl
theorem w_law_board {tb : Tab} {K : PySem.W.Frag} {mg : Str → Option Value} {f : Addr} {fd : FuncData} (F : FunD K "_law_board" "_law_board" (defArgs s_law_board) (defBody s_law_board) (defScope s_law_board) [] [] f fd) (hm : mg "_law_board" = some (.ref f)) (hc : chkSs tb (["pool", "most", "m", "found", "k", "ways"] : List Str) (defScope s_law_board) Wg.f_law_board.body (defBody s_law_board) = true) : DefW tb K mg "_law_board" Wg.f_law_board :=
  defW_of F hm (C8.fnScope_by (N := ["pool", "most", "m", "found", "k", "ways"]) (P := ["pool", "most"]) (by kernel_rfl)) (F.bindsN fun _ _ _ _ _ _ us hl => match us, hl with | [_, _], _ => rfl) rfl rfl hc
theorem c_law_set : chkSs T (["pool", "m", "k"] : List Str) (defScope s_law_set) Wg.f_law_set.body (defBody s_law_set) = true := by kernel_rfl
theorem w_law_set {tb : Tab} {K : PySem.W.Frag} {mg : Str → Option Value} {f : Addr} {fd : FuncData} (F : FunD K "_law_set" "_law_set" (defArgs s_law_set) (defBody s_law_set) (defScope s_law_set) [] [] f fd) (hm : mg "_law_set" = some (.ref f)) (hc : chkSs tb (["pool", "m", "k"] : List Str) (defScope s_law_set) Wg.f_law_set.body (defBody s_law_set) = true) : DefW tb K mg "_law_set" Wg.f_law_set :=
  defW_of F hm (C8.fnScope_by (N := ["pool", "m", "k"]) (P := ["pool", "m"]) (by kernel_rfl)) (F.bindsN fun _ _ _ _ _ _ us hl => match us, hl with | [_, _], _ => rfl) rfl rfl hc
theorem c_law : chkSs T (["script", "pool", "board", "m", "goal", "tolls", "paid", "ended", "gains", "more", "a", "b", "k", "wider", "s", "x"] : List Str) (defScope s_law) Wg.f_law_k47.body (defBody s_law) = true := by kernel_rfl
theorem w_law {tb : Tab} {K : PySem.W.Frag} {mg : Str → Option Value} {f : Addr} {fd : FuncData} (F : FunD K "law" "law" (defArgs s_law) (defBody s_law) (defScope s_law) [] [] f fd) (hm : mg "law" = some (.ref f)) (hc : chkSs tb (["script", "pool", "board", "m", "goal", "tolls", "paid", "ended", "gains", "more", "a", "b", "k", "wider", "s", "x"] : List Str) (defScope s_law) Wg.f_law_k47.body (defBody s_law) = true) : DefW tb K mg "law" Wg.f_law_k47 :=
  defW_of F hm (C8.fnScope_by (N := ["script", "pool", "board", "m", "goal", "tolls", "paid", "ended", "gains", "more", "a", "b", "k", "wider", "s", "x"]) (P := ["script"]) (by kernel_rfl)) (F.bindsN fun _ _ _ _ _ _ us hl => match us, hl with | [_], _ => rfl) rfl rfl hc
theorem facts {P : Program} {w : World} {K : PySem.W.Frag} {h : Heap} {mg : Str → Option Value} {f : Addr} {n k : Nat} {rest : Sts} (X : K.In h) (G : h.Ns mainGlobals mg) (hfa : mg ("law" : Str) = some (.ref f)) (c : He.SaysD fa fn K)
    (hL : Wg.f_law_k47 = ⟨k + 2, 1, .c (.asg (.nm 1) (.call 1 (.c (.var 0) .n))) rest⟩) (pure : Wg.wSs ⟨Pg.G, Wg.run Pg (n + 1)⟩ rest (.un :: .sh .pool :: List.replicate k .un) ⟨fun _ => False, fun d _ => d = .bl true, fun _ => False, fun _ => False⟩) :
    ∃ fd : FuncData, (∀ (s : Shared) (v : Value), BindsTo s fd ⟨[v], []⟩ [("script", v)]) ∧ ∀ base : Heap, K.In base → base.Ns mainGlobals mg → FnOk P w K mg base WgS.CX0 (n + 1 + 2 + 1) f fd ["script"] (spLaw K) := by
  obtain ⟨fd_drawing_steps, F_drawing_steps⟩ := c.def_ 0 (d := d_drawing_steps) rfl
  have g_drawing_steps := He.glo_ok X G (c.fact 0 (f := .glo "drawing_steps") rfl)
  obtain ⟨fd_drawn_in, F_drawn_in⟩ := c.def_ 1 (d := d_drawn_in) rfl
  have g_drawn_in := He.glo_ok X G (c.fact 1 (f := .glo "drawn_in") rfl)
  obtain ⟨fd_sums_after, F_sums_after⟩ := c.def_ 2 (d := d_sums_after) rfl
  have g_sums_after := He.glo_ok X G (c.fact 2 (f := .glo "sums_after") rfl)
  obtain ⟨fd_sums_by_moves, F_sums_by_moves⟩ := c.def_ 3 (d := d_sums_by_moves) rfl
  have g_sums_by_moves := He.glo_ok X G (c.fact 3 (f := .glo "sums_by_moves") rfl)
  obtain ⟨fd_least_tolls, F_least_tolls⟩ := c.def_ 4 (d := d_least_tolls) rfl
  have g_least_tolls := He.glo_ok X G (c.fact 4 (f := .glo "least_tolls") rfl)
  obtain ⟨fd_need_of, F_need_of⟩ := c.def_ 5 (d := d_need_of) rfl
  have g_need_of := He.glo_ok X G (c.fact 5 (f := .glo "need_of") rfl)
  obtain ⟨fd_risen, F_risen⟩ := c.def_ 6 (d := d_risen) rfl
  have g_risen := He.glo_ok X G (c.fact 6 (f := .glo "risen") rfl)
  obtain ⟨fd_least_stores, F_least_stores⟩ := c.def_ 7 (d := d_least_stores) rfl
  have g_least_stores := He.glo_ok X G (c.fact 7 (f := .glo "least_stores") rfl)
  obtain ⟨fd_law_pool, F_law_pool⟩ := c.def_ 8 (d := d_law_pool) rfl
  have g_law_pool := He.glo_ok X G (c.fact 8 (f := .glo "_law_pool") rfl)
  obtain ⟨fd_law_spread, F_law_spread⟩ := c.def_ 9 (d := d_law_spread) rfl
  have g_law_spread := He.glo_ok X G (c.fact 9 (f := .glo "_law_spread") rfl)
  obtain ⟨fd_law_draw, F_law_draw⟩ := c.def_ 10 (d := d_law_draw) rfl
  have g_law_draw := He.glo_ok X G (c.fact 10 (f := .glo "_law_draw") rfl)
  obtain ⟨fd_law_shuffled, F_law_shuffled⟩ := c.def_ 11 (d := d_law_shuffled) rfl
  have g_law_shuffled := He.glo_ok X G (c.fact 11 (f := .glo "_law_shuffled") rfl)
  obtain ⟨fd_law_board, F_law_board⟩ := c.def_ 12 (d := d_law_board) rfl
  have g_law_board := He.glo_ok X G (c.fact 12 (f := .glo "_law_board") rfl)
  obtain ⟨fd_law_set, F_law_set⟩ := c.def_ 13 (d := d_law_set) rfl
  have g_law_set := He.glo_ok X G (c.fact 13 (f := .glo "_law_set") rfl)
  obtain ⟨fd_law, F_law⟩ := c.def_ 14 (d := d_law) rfl
  have g_law := He.glo_ok X G (c.fact 14 (f := .glo "law") rfl)
  have b_len := He.free_ok X G (c.fact 15 (f := .free "len") rfl)
  have b_tuple := He.free_ok X G (c.fact 16 (f := .free "tuple") rfl)
  have b_list := He.free_ok X G (c.fact 17 (f := .free "list") rfl)
  have b_sorted := He.free_ok X G (c.fact 18 (f := .free "sorted") rfl)
  have b_min := He.free_ok X G (c.fact 19 (f := .free "min") rfl)
  have b_max := He.free_ok X G (c.fact 20 (f := .free "max") rfl)
  have b_sum := He.free_ok X G (c.fact 21 (f := .free "sum") rfl)
  have b_abs := He.free_ok X G (c.fact 22 (f := .free "abs") rfl)
  have b_int := He.free_ok X G (c.fact 23 (f := .free "int") rfl)
  have b_all := He.free_ok X G (c.fact 24 (f := .free "all") rfl)
  have b_any := He.free_ok X G (c.fact 25 (f := .free "any") rfl)
  have b_range := He.free_ok X G (c.fact 26 (f := .free "range") rfl)
  have b_zip := He.free_ok X G (c.fact 27 (f := .free "zip") rfl)
  have b_set := He.free_ok X G (c.fact 28 (f := .free "set") rfl)
  have e := hfa.symm.trans g_law
  cases e
  have bb := FunD.bindsA (ps := ["script"]) F_law fun _ _ _ _ _ _ us hl => match us, hl with | [_], _ => rfl
  have base0 : Base K mg := by
    refine ⟨fun b x hx => ?_, b_range, b_zip, b_set⟩
    cases b <;> first | (cases hx; done) | cases hx
    · exact b_len
    · exact b_tuple
    · exact b_list
    · exact b_sorted
    · exact b_min
    · exact b_max
    · exact b_sum
    · exact b_abs
    · exact b_int
    · exact b_all
    · exact b_any
  refine ⟨fd_law, fun s v => bb s [v] rfl, fun base _ _ => ?_⟩
  refine law_cal (T := T) (fnT := fun _ => none) (Pg := Pg) (N := ["script", "pool", "board", "m", "goal", "tolls", "paid", "ended", "gains", "more", "a", "b", "k", "wider", "s", "x"]) base0 (fun _ _ g x h => nomatch h) (fun f x hf hn => ?_) (w_law_spread F_law_spread g_law_spread c_law_spread) (w_law_draw F_law_draw g_law_draw c_law_draw) (fun x h => by cases h; rfl) rfl F_law (C8.fnScope_by (by kernel_rfl)) rfl (congrArg Wg.Fn.slots hL) c_law hL pure
  · have hf : tabF f = some x := hf
    unfold tabF at hf
    split at hf
    · exact (hn rfl).elim
    · cases hf; exact ⟨_, rfl, w_law_pool F_law_pool g_law_pool c_law_pool⟩
    · cases hf; exact ⟨_, rfl, w_law_spread F_law_spread g_law_spread (by kernel_rfl)⟩
    · cases hf; exact ⟨_, rfl, w_law_board F_law_board g_law_board c_law_board⟩
    · cases hf; exact ⟨_, rfl, w_law_set F_law_set g_law_set c_law_set⟩
    · cases hf; exact ⟨_, rfl, w_law_shuffled F_law_shuffled g_law_shuffled c_law_shuffled⟩
    · cases hf; exact ⟨_, rfl, w_drawing_steps F_drawing_steps g_drawing_steps c_drawing_steps⟩
    · cases hf; exact ⟨_, rfl, w_drawn_in F_drawn_in g_drawn_in c_drawn_in⟩
    · cases hf; exact ⟨_, rfl, w_least_stores F_least_stores g_least_stores c_least_stores⟩
    · cases hf; exact ⟨_, rfl, w_least_tolls F_least_tolls g_least_tolls c_least_tolls⟩
    · cases hf; exact ⟨_, rfl, w_need_of F_need_of g_need_of c_need_of⟩
    · cases hf; exact ⟨_, rfl, w_risen F_risen g_risen c_risen⟩
    · cases hf; exact ⟨_, rfl, w_sums_after F_sums_after g_sums_after c_sums_after⟩
    · cases hf; exact ⟨_, rfl, w_sums_by_moves F_sums_by_moves g_sums_by_moves c_sums_by_moves⟩
    · cases hf
end WgHead
open PySem PySem.W PySem.Calls PyProof.Rows
theorem WgHead.holds {k : Nat} {rest : Wg.Sts} (hL : Wg.f_law_k47 = ⟨k + 2, 1, .c (.asg (.nm 1) (.call 1 (.c (.var 0) .n))) rest⟩) (pure : Wg.wSs ⟨WgHead.Pg.G, Wg.run WgHead.Pg 21⟩ rest (.un :: .sh .pool :: List.replicate k .un) ⟨fun _ => False, fun d _ => d = .bl true, fun _ => False, fun _ => False⟩) : PySem.Challenge.rw_wishgames_k47_whole_tolls_and_stores.Holds := by
  w_on; o_law
  refine HandSHeadRun.head_any (r := OpenLaw.row PySem.Challenge.rw_wishgames_k47_whole_tolls_and_stores) (q := view (OpenLaw.row PySem.Challenge.rw_wishgames_k47_whole_tolls_and_stores).prog [18]) (H := WgHead.hk) (ob := WgHead.ob) (M := 1000) (loose := WgHead.loose) (d := HandSHeadRun.topDef (OpenLaw.row PySem.Challenge.rw_wishgames_k47_whole_tolls_and_stores).prog 18) (kwd := []) WgHead.ob_eq
    (by kernel_rfl) (fun s => by kernel_rfl) WgHead.run (by kernel_rfl) (by kernel_rfl) (by kernel_rfl) (by rfl) (by first | assumption | decide +kernel) (by decide +kernel) ⟨rfl, rfl, rfl, rfl, rfl, by decide +kernel⟩ ?hw ?hc
  case hw => w_witness2
  case hc =>
    refine L2.walk_ofE (l := PySem.Challenge.rw_wishgames_k47_whole_tolls_and_stores) (n := 63) (k := 24) (x := "script") (CX := WgS.CX0) rfl (by decide) (by kernel_rfl) ⟨rfl, by decide, by decide⟩ ?F (fun _ _ _ _ z => z)
    intro w mg fa h Y G hmg0
    obtain ⟨K, KX, c⟩ := Y
    have hmg : mg ("law" : PySem.Str) = some (.ref fa) := by
      have e : (HandSHeadRun.topDef (OpenLaw.row PySem.Challenge.rw_wishgames_k47_whole_tolls_and_stores).prog 18).name = ("law" : PySem.Str) := by kernel_rfl
      rw [← e]
      exact hmg0
    obtain ⟨fd, hb, hF⟩ := WgHead.facts (P := (PySem.Challenge.rw_wishgames_k47_whole_tolls_and_stores).prog) (w := w) (n := 20) KX G hmg c hL pure
    exact ⟨K, fd, WgS.spLaw K, KX, hb, fun H a ns hl _ hS => ⟨a, ns, rfl, hS, fun _ => rfl⟩, hF⟩
set_option maxHeartbeats 1000000
set_option Elab.async false
set_option linter.all false
set_option maxRecDepth 100000
/-! Wg: loops and comprehensions by invariants; data of lists. Plain Lean. -/
namespace Wg
/-- a for: an invariant by the turn -/
theorem foW_inv {body : D → Env → Ends → Prop} {E : Ends} {items : List D} {ρ : Env} (I : Nat → Env → Prop) (h0 : I 0 ρ)
    (step : ∀ (i : Nat) (d : D) (ρ : Env) (K : Env → Prop), items[i]? = some d → I i ρ → (∀ ρ', I (i + 1) ρ' → K ρ') → body d ρ ⟨K, E.rt, E.nx, K⟩) (done : ∀ ρ, I items.length ρ → E.nx ρ) : foW body E items ρ := by
  have gen : ∀ (l : List D) (i : Nat) (ρ : Env), i + l.length = items.length → (∀ j, l[j]? = items[i + j]?) → I i ρ → foW body E l ρ := by
    intro l
    induction l with
    | nil =>
      intro i ρ hl _ h
      have : i = items.length := by simpa using hl
      subst this
      exact done ρ h
    | cons d l ih =>
      intro i ρ hl he h
      refine step i d ρ _ ?_ h fun ρ' h' => ih (i + 1) ρ' (by simp at hl; omega) (fun j => ?_) h'
      · have := he 0
        simpa using this.symm
      · have := he (j + 1)
        have e : i + 1 + j = i + (j + 1) := by omega
        rw [e, ← this]
        simp
  exact gen items 0 ρ (by simp) (fun j => by simp) h0
/-- a while, by a measure -/
theorem whW_inv {test : Env → (Bool → Env → Prop) → Prop} {body : Env → Ends → Prop} {E : Ends} (I : Nat → Env → Prop)
    (step : ∀ (n : Nat) (ρ : Env) (K : Env → Prop), I n ρ → (∀ j ρ', j < n → I j ρ' → K ρ') → test ρ fun b ρ1 => bif b then body ρ1 ⟨K, E.rt, E.nx, K⟩ else E.nx ρ1) :
    ∀ (n : Nat) (ρ : Env), I n ρ → ∀ m, n < m → whW test body E m ρ := by
  intro n
  induction n using Nat.strongRecOn with
  | ind n ih =>
    intro ρ h m hm
    cases m with
    | zero => omega
    | succ m => exact step n ρ _ h fun j ρ' hj h' => ih j hj ρ' h' m (by omega)
/-- a comprehension whose state stays -/
theorem lcW_pure {step : D → Env → (Option D → Env → Prop) → Prop} {ρ : Env} {Q : List D → Env → Prop} (r : D → Option D) : ∀ (l acc : List D), (∀ x ∈ l, ∀ K : Option D → Env → Prop, K (r x) ρ → step x ρ K) → Q (acc ++ l.filterMap r) ρ → lcW step l acc ρ Q
  | [], acc, _, q => by
    have q : Q acc ρ := by simpa using q
    exact q
  | x :: xs, acc, h, q => by
    refine h x List.mem_cons_self _ ?_
    refine lcW_pure r xs _ (fun y hy => h y (List.mem_cons_of_mem _ hy)) ?_
    cases e : r x with
    | none => simpa [e] using q
    | some d => simpa [e] using q
theorem lcW_map {step : D → Env → (Option D → Env → Prop) → Prop} {ρ : Env} {Q : List D → Env → Prop} (f : D → D) (l : List D) (h : ∀ x ∈ l, ∀ K : Option D → Env → Prop, K (some (f x)) ρ → step x ρ K) (q : Q (l.map f) ρ) : lcW step l [] ρ Q := by
  refine lcW_pure (fun x => some (f x)) l [] h ?_
  simpa using q
inductive All2 {α β : Type} (P : α → β → Prop) : List α → List β → Prop
  | nil : All2 P [] []
  | cons {a : α} {b : β} {as : List α} {bs : List β} : P a b → All2 P as bs → All2 P (a :: as) (b :: bs)
/-- a comprehension whose items are any of P -/
theorem lcW_any {step : D → Env → (Option D → Env → Prop) → Prop} {ρ : Env} {Q : List D → Env → Prop} (P : D → Option D → Prop) : ∀ (l acc : List D), (∀ x ∈ l, ∀ K : Option D → Env → Prop, (∀ d, P x d → K d ρ) → step x ρ K) →
    (∀ rs : List (Option D), All2 P l rs → Q (acc ++ rs.filterMap id) ρ) → lcW step l acc ρ Q
  | [], acc, _, q => by
    have q : Q acc ρ := by simpa using q [] .nil
    exact q
  | x :: xs, acc, h, q => by
    refine h x List.mem_cons_self _ fun d hd => ?_
    refine lcW_any P xs _ (fun y hy => h y (List.mem_cons_of_mem _ hy)) fun rs hrs => ?_
    have := q (d :: rs) (.cons hd hrs)
    cases d with
    | none => simpa using this
    | some d => simpa using this
/-- whole numbers as data -/
def nD (l : List Nat) : List D := l.map fun (n : Nat) => D.int (n : Int)
theorem nD_get {l : List Nat} {i k : Nat} (h : l[i]? = some k) : (nD l)[i]? = some (.int (k : Int)) := by simp [nD, h]
theorem rangeD_nat (n : Nat) : rangeD 0 (n : Int) = nD (List.range n) := by
  unfold rangeD nD
  simp
def oD : Option Nat → D
  | none => .non
  | some k => .int (k : Int)
theorem lcW_on {α : Type} {step : D → Env → (Option D → Env → Prop) → Prop} {ρ : Env} {Q : List D → Env → Prop} (g : α → D) (r : α → Option D) (l : List α) (h : ∀ a ∈ l, ∀ K : Option D → Env → Prop, K (r a) ρ → step (g a) ρ K) (q : Q (l.filterMap r) ρ) : lcW step (l.map g) [] ρ Q := by
  have gen : ∀ (l : List α) (acc : List D), (∀ a ∈ l, ∀ K : Option D → Env → Prop, K (r a) ρ → step (g a) ρ K) → Q (acc ++ l.filterMap r) ρ → lcW step (l.map g) acc ρ Q := by
    intro l
    induction l with
    | nil =>
      intro acc _ q
      have q : Q acc ρ := by simpa using q
      exact q
    | cons a l ih =>
      intro acc h q
      refine h a List.mem_cons_self _ ?_
      refine ih _ (fun b hb => h b (List.mem_cons_of_mem _ hb)) ?_
      cases e : r a with
      | none => simpa [e] using q
      | some d => simpa [e] using q
  exact gen l [] h (by simpa using q)
theorem lcW_onMap {α : Type} {step : D → Env → (Option D → Env → Prop) → Prop} {ρ : Env} {Q : List D → Env → Prop} (g f : α → D) (l : List α) (h : ∀ a ∈ l, ∀ K : Option D → Env → Prop, K (some (f a)) ρ → step (g a) ρ K) (q : Q (l.map f) ρ) : lcW step (l.map g) [] ρ Q := by
  refine lcW_on g (fun a => some (f a)) l h ?_
  simpa using q
/-! ### facts of whole numbers as data -/
theorem pls_all : ∀ {n : Nat} {l : List D}, (∀ x ∈ l, D.pl n x = true) → D.pls n l = true
  | n, [], _ => by cases n <;> rfl
  | n, x :: xs, h => by
    have h1 := h x List.mem_cons_self
    have h2 := pls_all (n := n) fun y hy => h y (List.mem_cons_of_mem _ hy)
    unfold D.pls
    rw [h1, h2]
    rfl
theorem pl_int (n : Nat) (i : Int) : D.pl n (.int i) = true := by cases n <;> rfl
theorem pl_non (n : Nat) : D.pl n .non = true := by cases n <;> rfl
theorem pl_oD (n : Nat) (o : Option Nat) : D.pl n (oD o) = true := by
  cases o with
  | none => exact pl_non n
  | some k => exact pl_int n _
theorem pls_nD (n : Nat) (l : List Nat) : D.pls n (nD l) = true := pls_all fun x hx => by
  obtain ⟨k, _, rfl⟩ := List.mem_map.mp hx
  exact pl_int n _
theorem pl_tup {n : Nat} {l : List D} (h : D.pls n l = true) : D.pl (n + 1) (.tup l) = true := h
theorem pl_lst {n : Nat} {l : List D} (h : D.pls n l = true) : D.pl (n + 1) (.lst l) = true := h
theorem any_nD (l : List Nat) (i : Nat) : ((nD l).any fun z => D.eqv z (.int (i : Int))) = decide (i ∈ l) := by
  rw [Bool.eq_iff_iff]
  simp only [nD, List.any_map, List.any_eq_true, Function.comp, decide_eq_true_eq]
  constructor
  · rintro ⟨k, hk, e⟩
    have e : ((k : Int) == (i : Int)) = true := e
    have e : (k : Int) = (i : Int) := by simpa using e
    have : k = i := by omega
    subst this
    exact hk
  · intro h
    exact ⟨i, h, by show ((i : Int) == (i : Int)) = true; simp⟩
theorem alike_nD (l : List Nat) : allAlike (nD l) := by
  refine ⟨fun x hx y hy => ?_, fun x hx => ?_⟩
  · obtain ⟨a, _, rfl⟩ := List.mem_map.mp hx
    obtain ⟨b, _, rfl⟩ := List.mem_map.mp hy
    rfl
  · obtain ⟨a, _, rfl⟩ := List.mem_map.mp hx
    exact ⟨rfl, rfl⟩
theorem minD_nD : ∀ (l : List Nat) (k : Nat), minD (.int (k : Int)) (nD l) = .int ((l.foldl min k : Nat) : Int)
  | [], k => rfl
  | a :: l, k => by
    have e : minD (.int (k : Int)) (nD (a :: l)) = minD (if D.lt (.int (a : Int)) (.int (k : Int)) then .int (a : Int) else .int (k : Int)) (nD l) := rfl
    rw [e]
    have e2 : (if D.lt (.int (a : Int)) (.int (k : Int)) then D.int (a : Int) else .int (k : Int)) = .int ((min k a : Nat) : Int) := by
      have e3 : D.lt (.int (a : Int)) (.int (k : Int)) = decide ((a : Int) < (k : Int)) := rfl
      rw [e3]
      by_cases c : a < k
      · rw [if_pos (by simpa using c), Nat.min_eq_right (Nat.le_of_lt c)]
      · rw [if_neg (by simpa using c), Nat.min_eq_left (by omega)]
    rw [e2, minD_nD l (min k a)]
    rfl
theorem maxD_nD : ∀ (l : List Nat) (k : Nat), maxD (.int (k : Int)) (nD l) = .int ((l.foldl max k : Nat) : Int)
  | [], k => rfl
  | a :: l, k => by
    have e : maxD (.int (k : Int)) (nD (a :: l)) = maxD (if D.lt (.int (k : Int)) (.int (a : Int)) then .int (a : Int) else .int (k : Int)) (nD l) := rfl
    rw [e]
    have e2 : (if D.lt (.int (k : Int)) (.int (a : Int)) then D.int (a : Int) else .int (k : Int)) = .int ((max k a : Nat) : Int) := by
      have e3 : D.lt (.int (k : Int)) (.int (a : Int)) = decide ((k : Int) < (a : Int)) := rfl
      rw [e3]
      by_cases c : k < a
      · rw [if_pos (by simpa using c), Nat.max_eq_right (Nat.le_of_lt c)]
      · rw [if_neg (by simpa using c), Nat.max_eq_left (by omega)]
    rw [e2, maxD_nD l (max k a)]
    rfl
theorem min_ok {l : List Nat} {k : Nat} {Q : D → Prop} (q : Q (.int ((l.foldl min k : Nat) : Int))) : minL (nD (k :: l)) Q := by
  have e0 : nD (k :: l) = .int (k : Int) :: nD l := rfl
  rw [e0]
  unfold minL
  refine ⟨alike_nD (k :: l), ?_⟩
  have e := minD_nD l k
  show Q (minD (.int (k : Int)) (nD l))
  rw [e]
  exact q
theorem max_ok {l : List Nat} {k : Nat} {Q : D → Prop} (q : Q (.int ((l.foldl max k : Nat) : Int))) : maxL (nD (k :: l)) Q := by
  have e0 : nD (k :: l) = .int (k : Int) :: nD l := rfl
  rw [e0]
  unfold maxL
  refine ⟨alike_nD (k :: l), ?_⟩
  have e := maxD_nD l k
  show Q (maxD (.int (k : Int)) (nD l))
  rw [e]
  exact q
theorem min_okE {m l : List Nat} {k : Nat} {Q : D → Prop} (h : m = k :: l) (q : Q (.int ((l.foldl min k : Nat) : Int))) : minL (nD m) Q := by
  subst h
  exact min_ok q
theorem max_okE {m l : List Nat} {k : Nat} {Q : D → Prop} (h : m = k :: l) (q : Q (.int ((l.foldl max k : Nat) : Int))) : maxL (nD m) Q := by
  subst h
  exact max_ok q
theorem not_T {b : Bool} (h : (!b) = true) : b = false := by cases b with | true => cases h | false => rfl
theorem not_F {b : Bool} (h : (!b) = false) : b = true := by cases b with | true => rfl | false => cases h
theorem filterMap_if {α β : Type} (c : α → Bool) (f : α → β) : ∀ l : List α, l.filterMap (fun s => if c s = true then some (f s) else none) = (l.filter c).map f
  | [] => rfl
  | x :: xs => by
    rw [List.filterMap_cons, List.filter_cons]
    cases e : c x
    · exact filterMap_if c f xs
    · show f x :: _ = List.map f (x :: xs.filter c)
      rw [List.map_cons, filterMap_if c f xs]
/-- whole numbers, compared -/
theorem eqv_nat (a b : Nat) : D.eqv (.int (a : Int)) (.int (b : Int)) = decide (a = b) := by
  show ((a : Int) == (b : Int)) = decide (a = b)
  rw [Bool.eq_iff_iff]
  simp
  omega
theorem lt_nat (a b : Nat) : D.lt (.int (a : Int)) (.int (b : Int)) = decide (a < b) := by
  show decide ((a : Int) < (b : Int)) = decide (a < b)
  rw [Bool.eq_iff_iff]
  simp
theorem eqv_int (a b : Int) : D.eqv (.int a) (.int b) = decide (a = b) := by
  show (a == b) = decide (a = b)
  rw [Bool.eq_iff_iff]
  simp
theorem eqv_natT {a b : Nat} (h : D.eqv (.int (a : Int)) (.int (b : Int)) = true) : a = b := of_decide_eq_true ((eqv_nat a b).symm.trans h)
theorem eqv_natF {a b : Nat} (h : D.eqv (.int (a : Int)) (.int (b : Int)) = false) : a ≠ b := of_decide_eq_false ((eqv_nat a b).symm.trans h)
theorem lt_natT {a b : Nat} (h : D.lt (.int (a : Int)) (.int (b : Int)) = true) : a < b := of_decide_eq_true ((lt_nat a b).symm.trans h)
theorem lt_natF {a b : Nat} (h : D.lt (.int (a : Int)) (.int (b : Int)) = false) : ¬ a < b := of_decide_eq_false ((lt_nat a b).symm.trans h)
theorem eqvs_nD : ∀ (a b : List Nat), D.eqvs (nD a) (nD b) = decide (a = b)
  | [], [] => rfl
  | [], _ :: _ => rfl
  | _ :: _, [] => rfl
  | x :: a, y :: b => by
    show (D.eqv (.int (x : Int)) (.int (y : Int)) && D.eqvs (nD a) (nD b)) = _
    rw [eqv_nat, eqvs_nD a b, Bool.eq_iff_iff]
    simp
theorem nD_len (l : List Nat) : (nD l).length = l.length := List.length_map ..
/-- a while whose states go down a well-founded way -/
theorem whW_wf {α : Type} {r : α → α → Prop} (wf : WellFounded r) {test : Env → (Bool → Env → Prop) → Prop} {body : Env → Ends → Prop} {E : Ends} (I : α → Env → Prop) (nxt : α → α)
    (step : ∀ (a : α) (ρ : Env) (K : Env → Prop), I a ρ → (r (nxt a) a → ∀ ρ', I (nxt a) ρ' → K ρ') → test ρ fun b ρ1 => bif b then body ρ1 ⟨K, E.rt, E.nx, K⟩ else E.nx ρ1) (a : α) :
    ∃ n, ∀ ρ, I a ρ → ∀ m, n < m → whW test body E m ρ := by
  induction a using wf.induction with
  | _ a ih =>
    by_cases h : r (nxt a) a
    · obtain ⟨n, hn⟩ := ih (nxt a) h
      refine ⟨n + 1, fun ρ hI m hm => ?_⟩
      cases m with
      | zero => omega
      | succ m => exact step a ρ _ hI fun _ ρ' h' => hn ρ' h' m (by omega)
    · refine ⟨0, fun ρ hI m hm => ?_⟩
      cases m with
      | zero => omega
      | succ m => exact step a ρ _ hI fun h' => (h h').elim
theorem whl_wf {α : Type} {r : α → α → Prop} (wf : WellFounded r) {test : Env → (Bool → Env → Prop) → Prop} {body : Env → Ends → Prop} {E : Ends} (I : α → Env → Prop) (nxt : α → α)
    (step : ∀ (a : α) (ρ : Env) (K : Env → Prop), I a ρ → (r (nxt a) a → ∀ ρ', I (nxt a) ρ' → K ρ') → test ρ fun b ρ1 => bif b then body ρ1 ⟨K, E.rt, E.nx, K⟩ else E.nx ρ1) (a : α) {ρ : Env} (h0 : I a ρ) :
    ∃ n, whW test body E n ρ := by
  obtain ⟨n, hn⟩ := whW_wf wf I nxt step a
  exact ⟨n + 1, hn ρ h0 (n + 1) (Nat.lt_succ_self n)⟩
/-- a def's start, its slots written out -/
theorem wF_at {Φ : Ctx} {f : Fn} {ds : List D} {Q : D → Prop} (ρ : Env) (h1 : ds.length = f.pars) (h2 : f.pars ≤ f.slots) (h3 : ds.map Slot.sh ++ List.replicate (f.slots - f.pars) .un = ρ) (q : wSs Φ f.body ρ ⟨fun _ => Q .non, fun d _ => Q d, fun _ => False, fun _ => False⟩) : wF Φ f ds Q := by
  refine ⟨h1, h2, ?_⟩
  rw [h3]
  exact q
/-- a call to one depth more -/
theorem run_of {P : Prog} {n f : Nat} {fn : Fn} {ds : List D} {Q : D → Prop} (h : P.fns f = some fn) (hf : f ≠ 0) (q : wF ⟨P.G, run P n⟩ fn ds Q) : run P (n + 1) f ds Q := by
  unfold run
  split
  · exact (hf rfl).elim
  · exact (hf rfl).elim
  · rw [h]; exact q
theorem run_draw {P : Prog} {n : Nat} {m : Int} {Q : D → Prop} (h0 : 0 < m) (h1 : m < 2 ^ 31) (q : ∀ v : Int, 0 ≤ v → v < m → Q (.int v)) : run P n 0 [.pool, .int m] Q := by
  cases n with
  | zero => exact ⟨h0, h1, q⟩
  | succ n => exact ⟨h0, h1, q⟩
end Wg
/-! Tolls: the least cost of a forced way to a goal, as the one fixpoint of one step. Plain Lean. -/
set_option Elab.async false
set_option linter.all false
namespace M47
/-- none: beyond all numbers -/
def ole : Option Nat → Option Nat → Prop
  | _, none => True
  | none, some _ => False
  | some a, some b => a ≤ b
theorem ole_refl : ∀ a, ole a a
  | none => trivial
  | some a => Nat.le_refl a
theorem ole_trans : ∀ {a b c}, ole a b → ole b c → ole a c
  | _, _, none, _, _ => by cases ‹Option Nat› <;> trivial
  | none, none, some _, _, h => h.elim
  | some _, none, some _, _, h => h.elim
  | none, some _, some _, h, _ => h.elim
  | some _, some _, some _, h, g => Nat.le_trans h g
theorem ole_antisymm : ∀ {a b}, ole a b → ole b a → a = b
  | none, none, _, _ => rfl
  | none, some _, h, _ => h.elim
  | some _, none, _, h => h.elim
  | some a, some b, h, g => by rw [Nat.le_antisymm h g]
theorem ole_none (a) : ole a none := by cases a <;> trivial
theorem ole_some {a : Option Nat} {k : Nat} (h : ole a (some k)) : ∃ j, a = some j ∧ j ≤ k := by
  cases a with
  | none => exact h.elim
  | some j => exact ⟨j, rfl, h⟩
def omin : Option Nat → Option Nat → Option Nat
  | none, b => b
  | a, none => a
  | some a, some b => some (min a b)
def omax : Option Nat → Option Nat → Option Nat
  | some a, some b => some (max a b)
  | _, _ => none
def inf : List (Option Nat) → Option Nat
  | [] => none
  | a :: l => omin a (inf l)
def sup : List (Option Nat) → Option Nat
  | [] => some 0
  | a :: l => omax a (sup l)
theorem inf_some : ∀ {l : List (Option Nat)} {j : Nat}, inf l = some j → some j ∈ l
  | [], _, h => by cases h
  | a :: l, j, h => by
    unfold inf at h
    cases a with
    | none => exact List.mem_cons_of_mem _ (inf_some h)
    | some a =>
      cases e : inf l with
      | none => rw [e] at h; cases h; exact List.mem_cons_self
      | some b =>
        rw [e] at h
        have h : min a b = j := Option.some.inj h
        rcases Nat.le_total a b with c | c
        · rw [Nat.min_eq_left c] at h; subst h; exact List.mem_cons_self
        · rw [Nat.min_eq_right c] at h; subst h; exact List.mem_cons_of_mem _ (inf_some e)
theorem inf_le : ∀ {l : List (Option Nat)} {a : Option Nat}, a ∈ l → ole (inf l) a
  | [], _, h => nomatch h
  | b :: l, a, h => by
    unfold inf
    rcases List.mem_cons.mp h with e | h
    · subst e
      cases a with
      | none => exact ole_none _
      | some a => cases inf l with
        | none => exact Nat.le_refl a
        | some c => exact Nat.min_le_left a c
    · have := inf_le h
      cases b with
      | none => exact this
      | some b =>
        cases e : inf l with
        | none =>
          rw [e] at this
          cases a with
          | none => exact ole_none _
          | some a => exact this.elim
        | some c =>
          rw [e] at this
          cases a with
          | none => exact ole_none _
          | some a => exact Nat.le_trans (Nat.min_le_right b c) this
theorem sup_some : ∀ {l : List (Option Nat)} {j : Nat}, sup l = some j → ∀ a ∈ l, ∃ i, a = some i ∧ i ≤ j
  | [], _, _ => fun a h => nomatch h
  | a :: l, j, h => by
    unfold sup at h
    cases a with
    | none => cases h
    | some a =>
      cases e : sup l with
      | none => rw [e] at h; cases h
      | some b =>
        rw [e] at h
        have h : max a b = j := Option.some.inj h
        intro c hc
        rcases List.mem_cons.mp hc with q | q
        · exact ⟨a, q, by rw [← h]; exact Nat.le_max_left a b⟩
        · obtain ⟨i, e1, e2⟩ := sup_some e c q
          exact ⟨i, e1, by rw [← h]; exact Nat.le_trans e2 (Nat.le_max_right a b)⟩
theorem sup_le : ∀ {l : List (Option Nat)} {j : Nat}, (∀ a ∈ l, ole a (some j)) → ole (sup l) (some j)
  | [], j, _ => Nat.zero_le j
  | a :: l, j, h => by
    unfold sup
    have h1 := h a List.mem_cons_self
    have h2 := sup_le (l := l) fun b hb => h b (List.mem_cons_of_mem _ hb)
    obtain ⟨x, rfl, hx⟩ := ole_some h1
    obtain ⟨y, e, hy⟩ := ole_some h2
    rw [e]
    exact Nat.max_le.mpr ⟨hx, hy⟩
/-- the greatest one is among them -/
theorem sup_mem : ∀ {l : List (Option Nat)} {j : Nat}, l ≠ [] → sup l = some j → some j ∈ l
  | [], _, h, _ => (h rfl).elim
  | [a], j, _, h => by
    unfold sup at h
    cases a with
    | none => cases h
    | some a =>
      have h : max a 0 = j := Option.some.inj h
      rw [Nat.max_eq_left (Nat.zero_le a)] at h
      subst h
      exact List.mem_cons_self
  | a :: b :: l, j, _, h => by
    have h : omax a (sup (b :: l)) = some j := h
    cases a with
    | none => cases h
    | some a =>
      cases e : sup (b :: l) with
      | none => rw [e] at h; cases h
      | some c =>
        rw [e] at h
        have h : max a c = j := Option.some.inj h
        rcases Nat.le_total c a with q | q
        · rw [Nat.max_eq_left q] at h; subst h; exact List.mem_cons_self
        · rw [Nat.max_eq_right q] at h; subst h; exact List.mem_cons_of_mem _ (sup_mem (by simp) e)
/-- the best of the ways' numbers, for owner 0 the least, else the greatest -/
def best (zero : Bool) (l : List (Option Nat)) : Option Nat := if zero then inf l else sup l
theorem best_mem {z : Bool} {l : List (Option Nat)} {j : Nat} (hl : l ≠ []) (h : best z l = some j) : some j ∈ l := by
  unfold best at h
  split at h
  · exact inf_some h
  · exact sup_mem hl h
/-- a board: who moves (true: player 0), where to -/
structure Bd where
  m : Nat
  own : Nat → Bool
  ways : Nat → List Nat
  ne : ∀ s, s < m → ways s ≠ []
  lt : ∀ s, s < m → ∀ w ∈ ways s, w < m
abbrev Vec := Nat → Option Nat
/-- one step: nothing at a goal; else the toll and the best of the ways -/
def F (B : Bd) (t : Nat → Nat) (g : Nat → Bool) (x : Vec) (s : Nat) : Option Nat := if g s then some 0 else (best (B.own s) ((B.ways s).map x)).map (t s + ·)
def Le (B : Bd) (x y : Vec) : Prop := ∀ s, s < B.m → ole (x s) (y s)
theorem map_add_le {a b : Option Nat} {k : Nat} (h : ole a b) : ole (a.map (k + ·)) (b.map (k + ·)) := by
  cases b with
  | none => exact ole_none _
  | some b =>
    obtain ⟨a, rfl, h⟩ := ole_some h
    exact Nat.add_le_add_left h k
theorem best_mono {z : Bool} {ws : List Nat} {x y : Vec} (h : ∀ w ∈ ws, ole (x w) (y w)) : ole (best z (ws.map x)) (best z (ws.map y)) := by
  cases e : best z (ws.map y) with
  | none => exact ole_none _
  | some j =>
    unfold best at e ⊢
    cases z with
    | true =>
      have e : inf (ws.map y) = some j := e
      obtain ⟨w, hw, e2⟩ := List.mem_map.mp (inf_some e)
      have h1 := h w hw
      rw [e2] at h1
      exact ole_trans (inf_le (List.mem_map.mpr ⟨w, hw, rfl⟩)) h1
    | false =>
      have e : sup (ws.map y) = some j := e
      refine sup_le fun a ha => ?_
      obtain ⟨w, hw, rfl⟩ := List.mem_map.mp ha
      obtain ⟨i, e1, e2⟩ := sup_some e (y w) (List.mem_map.mpr ⟨w, hw, rfl⟩)
      have h1 := h w hw
      rw [e1] at h1
      exact ole_trans h1 e2
theorem F_mono {B : Bd} {t : Nat → Nat} {g : Nat → Bool} {x y : Vec} (h : Le B x y) : Le B (F B t g x) (F B t g y) := fun s hs => by
  unfold F
  split
  · exact ole_refl _
  · exact map_add_le (best_mono fun w hw => h w (B.lt s hs w hw))
/-- what is at most its step is at most what is at least its step -/
theorem pre_post {B : Bd} {t : Nat → Nat} {g : Nat → Bool} {y r : Vec} (ht : ∀ s, g s = false → 1 ≤ t s) (hy : Le B y (F B t g y)) (hr : Le B (F B t g r) r) : Le B y r := by
  have main : ∀ k s, s < B.m → r s = some k → ole (y s) (some k) := by
    intro k
    induction k using Nat.strongRecOn with
    | ind k ih =>
      intro s hs e
      refine ole_trans (hy s hs) ?_
      have h1 := hr s hs
      rw [e] at h1
      unfold F at h1 ⊢
      split
      · exact Nat.zero_le k
      · rename_i hg
        rw [if_neg hg] at h1
        have hg : g s = false := by simpa using hg
        cases e2 : best (B.own s) ((B.ways s).map r) with
        | none => rw [e2] at h1; exact h1.elim
        | some j =>
          rw [e2] at h1
          have h1 : t s + j ≤ k := h1
          have hjk : j < k := by have := ht s hg; omega
          have h3 : ole (best (B.own s) ((B.ways s).map y)) (some j) := by
            have e3 := e2
            unfold best at e2 ⊢
            cases z : B.own s with
            | true =>
              rw [z] at e2
              have e2 : inf ((B.ways s).map r) = some j := e2
              obtain ⟨w, hw, e4⟩ := List.mem_map.mp (inf_some e2)
              exact ole_trans (inf_le (List.mem_map.mpr ⟨w, hw, rfl⟩)) (ih j hjk w (B.lt s hs w hw) e4)
            | false =>
              rw [z] at e2
              have e2 : sup ((B.ways s).map r) = some j := e2
              refine sup_le fun a ha => ?_
              obtain ⟨w, hw, rfl⟩ := List.mem_map.mp ha
              obtain ⟨i, e4, e5⟩ := sup_some e2 (r w) (List.mem_map.mpr ⟨w, hw, rfl⟩)
              exact ole_trans (ih i (Nat.lt_of_le_of_lt e5 hjk) w (B.lt s hs w hw) e4) e5
          exact ole_trans (map_add_le h3) h1
  intro s hs
  cases e : r s with
  | none => exact ole_none _
  | some k => exact main k s hs e
def Fix (B : Bd) (t : Nat → Nat) (g : Nat → Bool) (x : Vec) : Prop := ∀ s, s < B.m → F B t g x s = x s
theorem Fix.post {B : Bd} {t : Nat → Nat} {g : Nat → Bool} {x : Vec} (h : Fix B t g x) : Le B x (F B t g x) := fun s hs => by rw [h s hs]; exact ole_refl _
theorem Fix.pre {B : Bd} {t : Nat → Nat} {g : Nat → Bool} {x : Vec} (h : Fix B t g x) : Le B (F B t g x) x := fun s hs => by rw [h s hs]; exact ole_refl _
theorem Fix.uniq {B : Bd} {t : Nat → Nat} {g : Nat → Bool} {x y : Vec} (ht : ∀ s, g s = false → 1 ≤ t s) (hx : Fix B t g x) (hy : Fix B t g y) : ∀ s, s < B.m → x s = y s := fun s hs =>
  ole_antisymm (pre_post ht hx.post hy.pre s hs) (pre_post ht hy.post hx.pre s hs)
/-- more tolls, no less -/
theorem Fix.tolls {B : Bd} {t t' : Nat → Nat} {g : Nat → Bool} {x y : Vec} (ht : ∀ s, g s = false → 1 ≤ t s) (h : ∀ s, s < B.m → t s ≤ t' s) (hx : Fix B t g x) (hy : Fix B t' g y) : Le B x y := by
  refine pre_post ht hx.post fun s hs => ole_trans ?_ (hy.pre s hs)
  unfold F
  split
  · exact ole_refl _
  · cases best (B.own s) ((B.ways s).map y) with
    | none => trivial
    | some j => exact Nat.add_le_add_right (h s hs) j
/-- a wider goal, no more -/
theorem Fix.wider {B : Bd} {t : Nat → Nat} {g g' : Nat → Bool} {x y : Vec} (ht : ∀ s, g' s = false → 1 ≤ t s) (h : ∀ s, g s = true → g' s = true) (hx : Fix B t g x) (hy : Fix B t g' y) : Le B y x := by
  refine pre_post ht hy.post fun s hs => ole_trans ?_ (hx.pre s hs)
  unfold F
  split
  · cases q : g s with
    | true => rw [if_pos rfl]; exact ole_refl _
    | false =>
      rw [if_neg (by simp)]
      cases best (B.own s) ((B.ways s).map x) with
      | none => exact ole_none _
      | some j => exact Nat.zero_le _
  · rename_i hg
    have : g s = false := by
      cases q : g s with
      | true => exact (hg (h s q)).elim
      | false => rfl
    rw [this, if_neg (by simp)]
    exact ole_refl _
/-- where a number is does not hang on the tolls -/
theorem Fix.finite {B : Bd} {t t' : Nat → Nat} {g : Nat → Bool} {x y : Vec} (ht : ∀ s, g s = false → 1 ≤ t s) (hx : Fix B t g x) (hy : Fix B t' g y) : ∀ k s, s < B.m → x s = some k → (y s).isSome = true := by
  intro k
  induction k using Nat.strongRecOn with
  | ind k ih =>
    intro s hs e
    rw [← hx s hs] at e
    rw [← hy s hs]
    unfold F at e ⊢
    split
    · rfl
    · rename_i hg
      rw [if_neg hg] at e
      have hg : g s = false := by simpa using hg
      cases e2 : best (B.own s) ((B.ways s).map x) with
      | none => rw [e2] at e; cases e
      | some j =>
        rw [e2] at e
        have e : t s + j = k := Option.some.inj e
        have hjk : j < k := by have := ht s hg; omega
        have h3 : (best (B.own s) ((B.ways s).map y)).isSome = true := by
          unfold best at e2 ⊢
          cases z : B.own s with
          | true =>
            rw [z] at e2
            have e2 : inf ((B.ways s).map x) = some j := e2
            obtain ⟨w, hw, e4⟩ := List.mem_map.mp (inf_some e2)
            have h4 := ih j hjk w (B.lt s hs w hw) e4
            obtain ⟨i, hi⟩ := Option.isSome_iff_exists.mp h4
            have h5 := inf_le (List.mem_map.mpr ⟨w, hw, rfl⟩ : y w ∈ (B.ways s).map y)
            rw [hi] at h5
            obtain ⟨i', e6, _⟩ := ole_some h5
            show (inf _).isSome = true
            rw [e6]; rfl
          | false =>
            rw [z] at e2
            have e2 : sup ((B.ways s).map x) = some j := e2
            have all : ∀ w ∈ B.ways s, ∃ i, y w = some i := fun w hw => by
              obtain ⟨i, e4, e5⟩ := sup_some e2 (x w) (List.mem_map.mpr ⟨w, hw, rfl⟩)
              exact Option.isSome_iff_exists.mp (ih i (Nat.lt_of_le_of_lt e5 hjk) w (B.lt s hs w hw) e4)
            show (sup _).isSome = true
            have gen : ∀ l : List Nat, (∀ w ∈ l, ∃ i, y w = some i) → (sup (l.map y)).isSome = true := by
              intro l
              induction l with
              | nil => intro _; rfl
              | cons w l ih2 =>
                intro h
                obtain ⟨i, hi⟩ := h w List.mem_cons_self
                obtain ⟨c, hc⟩ := Option.isSome_iff_exists.mp (ih2 fun v hv => h v (List.mem_cons_of_mem _ hv))
                show (omax (y w) (sup (l.map y))).isSome = true
                rw [hi, hc]; rfl
            exact gen _ all
        obtain ⟨i, hi⟩ := Option.isSome_iff_exists.mp h3
        rw [hi]; rfl
/-- a number is below the count of the spots times the most toll -/
theorem Fix.bound {B : Bd} {t : Nat → Nat} {g : Nat → Bool} {x : Vec} {T : Nat} (ht : ∀ s, g s = false → 1 ≤ t s) (hT : ∀ s, s < B.m → g s = false → t s ≤ T) (hx : Fix B t g x) :
    ∀ k s, s < B.m → x s = some k → k ≤ T * ((List.range B.m).filter fun w => match x w with | some j => decide (j < k) | none => false).length := by
  intro k
  induction k using Nat.strongRecOn with
  | ind k ih =>
    intro s hs e
    have e0 := e
    rw [← hx s hs] at e
    unfold F at e
    split at e
    · cases e; exact Nat.zero_le _
    · rename_i hg
      have hg : g s = false := by simpa using hg
      cases e2 : best (B.own s) ((B.ways s).map x) with
      | none => rw [e2] at e; cases e
      | some j =>
        rw [e2] at e
        have e : t s + j = k := Option.some.inj e
        have hjk : j < k := by have := ht s hg; omega
        obtain ⟨w, hw, e4⟩ := List.mem_map.mp (best_mem (by simp [B.ne s hs]) e2)
        have h5 := ih j hjk w (B.lt s hs w hw) e4
        have hlt : ((List.range B.m).filter fun w => match x w with | some i => decide (i < j) | none => false).length + 1 ≤ ((List.range B.m).filter fun w => match x w with | some i => decide (i < k) | none => false).length := by
          have gen : ∀ l : List Nat, w ∈ l → (l.filter fun w => match x w with | some i => decide (i < j) | none => false).length + 1 ≤ (l.filter fun w => match x w with | some i => decide (i < k) | none => false).length := by
            have mono : ∀ l : List Nat, (l.filter fun w => match x w with | some i => decide (i < j) | none => false).length ≤ (l.filter fun w => match x w with | some i => decide (i < k) | none => false).length := by
              intro l
              induction l with
              | nil => exact Nat.le_refl _
              | cons v l ih2 =>
                rw [List.filter_cons, List.filter_cons]
                cases q : x v with
                | none => simpa [q] using ih2
                | some i =>
                  by_cases c1 : i < j
                  · have c2 : i < k := Nat.lt_trans c1 hjk
                    simpa [c1, c2] using ih2
                  · by_cases c2 : i < k
                    · simp only [c1, c2, decide_false, decide_true, if_true, Bool.false_eq_true, if_false, List.length_cons]
                      omega
                    · simpa [c1, c2] using ih2
            intro l
            induction l with
            | nil => intro h; cases h
            | cons v l ih2 =>
              intro h
              rw [List.filter_cons, List.filter_cons]
              rcases List.mem_cons.mp h with q | q
              · subst q
                rw [e4]
                have c1 : ¬ j < j := Nat.lt_irrefl j
                simp only [c1, hjk, decide_false, decide_true, if_true, Bool.false_eq_true, if_false, List.length_cons]
                have := mono l
                omega
              · have h6 := ih2 q
                cases q2 : x v with
                | none => simpa [q2] using h6
                | some i =>
                  by_cases c1 : i < j
                  · have c2 : i < k := Nat.lt_trans c1 hjk
                    simp only [c1, c2, decide_true, if_true, List.length_cons]
                    omega
                  · by_cases c2 : i < k
                    · simp only [c1, c2, decide_false, decide_true, if_true, Bool.false_eq_true, if_false, List.length_cons]
                      omega
                    · simpa [c1, c2] using h6
          exact gen _ (List.mem_range.mpr (B.lt s hs w hw))
        have h7 := hT s hs hg
        have h8 : T * (((List.range B.m).filter fun w => match x w with | some i => decide (i < j) | none => false).length + 1) ≤ T * ((List.range B.m).filter fun w => match x w with | some i => decide (i < k) | none => false).length := Nat.mul_le_mul_left T hlt
        rw [Nat.mul_add, Nat.mul_one] at h8
        omega
/-- .. -/
theorem Fix.top {B : Bd} {t : Nat → Nat} {g : Nat → Bool} {x : Vec} {T : Nat} (ht : ∀ s, g s = false → 1 ≤ t s) (hT : ∀ s, s < B.m → g s = false → t s ≤ T) (hx : Fix B t g x) {k s : Nat} (hs : s < B.m) (e : x s = some k) : k ≤ B.m * T := by
  have h1 := hx.bound ht hT k s hs e
  have h2 : ((List.range B.m).filter fun w => match x w with | some j => decide (j < k) | none => false).length ≤ B.m := by
    have := List.length_filter_le (fun w => match x w with | some j => decide (j < k) | none => false) (List.range B.m)
    simpa using this
  have h3 := Nat.mul_le_mul_left T h2
  rw [Nat.mul_comm B.m T]
  omega
/-- all tolls k times -/
theorem Fix.scale {B : Bd} {t : Nat → Nat} {g : Nat → Bool} {x : Vec} (k : Nat) (hk : 1 ≤ k) (hx : Fix B t g x) : Fix B (fun s => k * t s) g (fun s => (x s).map (k * ·)) := fun s hs => by
  show F B (fun s => k * t s) g (fun s => (x s).map (k * ·)) s = (x s).map (k * ·)
  have e0 : (x s).map (k * ·) = (F B t g x s).map (k * ·) := by rw [hx s hs]
  rw [e0]
  unfold F
  split
  · rfl
  · have inf_k : ∀ l : List (Option Nat), inf (l.map fun a => a.map (k * ·)) = (inf l).map (k * ·) := by
      intro l
      induction l with
      | nil => rfl
      | cons a l ih =>
        show omin (a.map (k * ·)) (inf (l.map fun a => a.map (k * ·))) = (omin a (inf l)).map (k * ·)
        rw [ih]
        cases a with
        | none => cases inf l <;> rfl
        | some a => cases inf l with
          | none => rfl
          | some b =>
            show some (min (k * a) (k * b)) = some (k * min a b)
            rw [Nat.mul_min_mul_left]
    have sup_k : ∀ l : List (Option Nat), sup (l.map fun a => a.map (k * ·)) = (sup l).map (k * ·) := by
      intro l
      induction l with
      | nil => rfl
      | cons a l ih =>
        show omax (a.map (k * ·)) (sup (l.map fun a => a.map (k * ·))) = (omax a (sup l)).map (k * ·)
        rw [ih]
        cases a with
        | none => rfl
        | some a => cases sup l with
          | none => rfl
          | some b =>
            show some (max (k * a) (k * b)) = some (k * max a b)
            rw [Nat.mul_max_mul_left]
    have e : (B.ways s).map (fun s => (x s).map (k * ·)) = ((B.ways s).map x).map fun a => a.map (k * ·) := by rw [List.map_map]; rfl
    rw [e]
    have eb : best (B.own s) (((B.ways s).map x).map fun a => a.map (k * ·)) = (best (B.own s) ((B.ways s).map x)).map (k * ·) := by
      unfold best
      split
      · exact inf_k _
      · exact sup_k _
    rw [eb]
    cases best (B.own s) ((B.ways s).map x) with
    | none => rfl
    | some j =>
      show some (k * t s + k * j) = some (k * (t s + j))
      rw [Nat.mul_add]
/-! ### the best, by the known ones -/
theorem foldl_min (l : List Nat) (k : Nat) : inf (some k :: l.map some) = some (l.foldl min k) := by
  induction l generalizing k with
  | nil => rfl
  | cons a l ih =>
    have e := ih (min k a)
    show omin (some k) (omin (some a) (inf (l.map some))) = _
    rw [List.foldl_cons, ← e]
    show _ = omin (some (min k a)) (inf (l.map some))
    cases inf (l.map some) with
    | none => rfl
    | some c => show some (min k (min a c)) = some (min (min k a) c); rw [Nat.min_assoc]
theorem foldl_max (l : List Nat) (k : Nat) : sup (some k :: l.map some) = some (l.foldl max k) := by
  induction l generalizing k with
  | nil => show some (max k 0) = some k; rw [Nat.max_eq_left (Nat.zero_le k)]
  | cons a l ih =>
    have e := ih (max k a)
    show omax (some k) (omax (some a) (sup (l.map some))) = _
    rw [List.foldl_cons, ← e]
    show _ = omax (some (max k a)) (sup (l.map some))
    cases sup (l.map some) with
    | none => rfl
    | some c => show some (max k (max a c)) = some (max (max k a) c); rw [Nat.max_assoc]
theorem inf_known : ∀ l : List (Option Nat), inf l = inf ((l.filterMap id).map some)
  | [] => rfl
  | none :: l => inf_known l
  | some a :: l => by
    show omin (some a) (inf l) = omin (some a) (inf ((l.filterMap id).map some))
    rw [inf_known l]
/-- none is unknown: all are known -/
theorem all_known : ∀ {l : List (Option Nat)}, (l.filterMap id).length = l.length → l = (l.filterMap id).map some
  | [], _ => rfl
  | none :: l, h => by
    have := List.length_filterMap_le id l
    simp at h
    omega
  | some a :: l, h => by
    have h : (l.filterMap id).length = l.length := by simpa using h
    have := all_known h
    show some a :: l = some a :: (l.filterMap id).map some
    rw [← this]
theorem sup_unknown : ∀ {l : List (Option Nat)}, (l.filterMap id).length < l.length → sup l = none
  | [], h => by simp at h
  | none :: l, _ => rfl
  | some a :: l, h => by
    have h : (l.filterMap id).length < l.length := by simpa using h
    show omax (some a) (sup l) = none
    rw [sup_unknown h]
    rfl
theorem inf_none {l : List (Option Nat)} (h : l.filterMap id = []) : inf l = none := by rw [inf_known, h]; rfl
/-! ### what gets less comes to an end -/
def nones : List (Option Nat) → Nat
  | [] => 0
  | none :: l => nones l + 1
  | some _ :: l => nones l
def total : List (Option Nat) → Nat
  | [] => 0
  | none :: l => total l
  | some a :: l => a + total l
inductive AllLe : List (Option Nat) → List (Option Nat) → Prop
  | nil : AllLe [] []
  | cons {a b : Option Nat} {as bs : List (Option Nat)} : ole a b → AllLe as bs → AllLe (a :: as) (b :: bs)
theorem AllLe.less : ∀ {a b : List (Option Nat)}, AllLe a b → nones a ≤ nones b ∧ (nones a = nones b → total a ≤ total b ∧ (total a = total b → a = b))
  | _, _, .nil => ⟨Nat.le_refl _, fun _ => ⟨Nat.le_refl _, fun _ => rfl⟩⟩
  | _, _, .cons (a := a) (b := b) h t => by
    obtain ⟨h1, h2⟩ := AllLe.less t
    cases a with
    | none =>
      cases b with
      | none => exact ⟨Nat.succ_le_succ h1, fun e => ⟨(h2 (Nat.succ.inj e)).1, fun e2 => by rw [(h2 (Nat.succ.inj e)).2 e2]⟩⟩
      | some b => exact h.elim
    | some a =>
      cases b with
      | none => exact ⟨Nat.le_succ_of_le h1, fun e => by simp only [nones] at e; omega⟩
      | some b =>
        have h : a ≤ b := h
        refine ⟨h1, fun e => ?_⟩
        obtain ⟨h3, h4⟩ := h2 e
        refine ⟨Nat.add_le_add h h3, fun e2 => ?_⟩
        simp only [total] at e2
        have : a = b := by omega
        subst this
        rw [h4 (by omega)]
/-- less, first in the unknown ones, then in the sum -/
def Less (a b : List (Option Nat)) : Prop := Prod.Lex (· < ·) (· < ·) (nones a, total a) (nones b, total b)
theorem less_wf : WellFounded Less := InvImage.wf (fun a : List (Option Nat) => (nones a, total a)) (Prod.lex Nat.lt_wfRel Nat.lt_wfRel).wf
theorem AllLe.lt {a b : List (Option Nat)} (h : AllLe a b) (ne : a ≠ b) : Less a b := by
  obtain ⟨h1, h2⟩ := h.less
  rcases Nat.lt_or_ge (nones a) (nones b) with c | c
  · exact .left _ _ c
  · have e : nones a = nones b := Nat.le_antisymm h1 c
    obtain ⟨h3, h4⟩ := h2 e
    unfold Less
    rw [e]
    refine .right _ ?_
    rcases Nat.lt_or_ge (total a) (total b) with d | d
    · exact d
    · exact (ne (h4 (Nat.le_antisymm h3 d))).elim
theorem allLe_map {f g : Nat → Option Nat} : ∀ {l : List Nat}, (∀ x ∈ l, ole (f x) (g x)) → AllLe (l.map f) (l.map g)
  | [], _ => .nil
  | x :: xs, h => .cons (h x List.mem_cons_self) (allLe_map fun y hy => h y (List.mem_cons_of_mem _ hy))
/-! ### as many steps as spots are enough -/
def rank (x : Vec) (m k : Nat) : Nat := ((List.range m).filter fun w => match x w with | some j => decide (j < k) | none => false).length
theorem rank_mono {x : Vec} {m j k : Nat} (h : j ≤ k) : rank x m j ≤ rank x m k := by
  unfold rank
  induction List.range m with
  | nil => exact Nat.le_refl _
  | cons v l ih =>
    rw [List.filter_cons, List.filter_cons]
    cases q : x v with
    | none => simpa [q] using ih
    | some i =>
      by_cases c1 : i < j
      · have c2 : i < k := Nat.lt_of_lt_of_le c1 h
        simpa [c1, c2] using ih
      · by_cases c2 : i < k
        · simp only [c1, c2, decide_false, decide_true, if_true, Bool.false_eq_true, if_false, List.length_cons]
          omega
        · simpa [c1, c2] using ih
theorem rank_lt {x : Vec} {m j k w : Nat} (hw : w < m) (e : x w = some j) (h : j < k) : rank x m j + 1 ≤ rank x m k := by
  unfold rank
  have hw : w ∈ List.range m := List.mem_range.mpr hw
  revert hw
  have mono : ∀ l : List Nat, (l.filter fun w => match x w with | some i => decide (i < j) | none => false).length ≤ (l.filter fun w => match x w with | some i => decide (i < k) | none => false).length := by
    intro l
    induction l with
    | nil => exact Nat.le_refl _
    | cons v l ih =>
      rw [List.filter_cons, List.filter_cons]
      cases q : x v with
      | none => simpa [q] using ih
      | some i =>
        by_cases c1 : i < j
        · have c2 : i < k := Nat.lt_trans c1 h
          simpa [c1, c2] using ih
        · by_cases c2 : i < k
          · simp only [c1, c2, decide_false, decide_true, if_true, Bool.false_eq_true, if_false, List.length_cons]
            omega
          · simpa [c1, c2] using ih
  induction List.range m with
  | nil => intro h; cases h
  | cons v l ih =>
    intro hv
    rw [List.filter_cons, List.filter_cons]
    rcases List.mem_cons.mp hv with q | q
    · subst q
      rw [e]
      have c1 : ¬ j < j := Nat.lt_irrefl j
      simp only [c1, h, decide_false, decide_true, if_true, Bool.false_eq_true, if_false, List.length_cons]
      have := mono l
      omega
    · have h6 := ih q
      cases q2 : x v with
      | none => simpa [q2] using h6
      | some i =>
        by_cases c1 : i < j
        · have c2 : i < k := Nat.lt_trans c1 h
          simp only [c1, c2, decide_true, if_true, List.length_cons]
          omega
        · by_cases c2 : i < k
          · simp only [c1, c2, decide_false, decide_true, if_true, Bool.false_eq_true, if_false, List.length_cons]
            omega
          · simpa [c1, c2] using h6
theorem rank_le (x : Vec) (m k : Nat) : rank x m k ≤ m := by
  have := List.length_filter_le (fun w => match x w with | some j => decide (j < k) | none => false) (List.range m)
  simpa [rank] using this
/-- steps from above: exact from the rank on -/
theorem steps_exact {B : Bd} {t : Nat → Nat} {g : Nat → Bool} {y : Vec} (ht : ∀ s, g s = false → 1 ≤ t s) (hy : Fix B t g y) (z : Nat → Vec) (hz : ∀ k s, s < B.m → z (k + 1) s = F B t g (z k) s) :
    ∀ k s j, s < B.m → y s = some j → rank y B.m j < k → ole (z k s) (some j) := by
  intro k
  induction k with
  | zero => intro s j _ _ h; exact (Nat.not_lt_zero _ h).elim
  | succ k ih =>
    intro s j hs e hr
    rw [hz k s hs]
    have e0 := e
    rw [← hy s hs] at e
    unfold F at e ⊢
    split
    · exact Nat.zero_le j
    · rename_i hg
      rw [if_neg hg] at e
      have hg : g s = false := by simpa using hg
      cases e2 : best (B.own s) ((B.ways s).map y) with
      | none => rw [e2] at e; cases e
      | some i =>
        rw [e2] at e
        have e : t s + i = j := Option.some.inj e
        have hij : i < j := by have := ht s hg; omega
        have below : ∀ w ∈ B.ways s, ∀ i', y w = some i' → i' ≤ i → ole (z k w) (some i') := fun w hw i' ew hle => by
          have hwm := B.lt s hs w hw
          have := rank_lt hwm ew (Nat.lt_of_le_of_lt hle hij)
          exact ih w i' hwm ew (by omega)
        have h3 : ole (best (B.own s) ((B.ways s).map (z k))) (some i) := by
          unfold best at e2 ⊢
          cases zz : B.own s with
          | true =>
            rw [zz] at e2
            have e2 : inf ((B.ways s).map y) = some i := e2
            obtain ⟨w, hw, e4⟩ := List.mem_map.mp (inf_some e2)
            exact ole_trans (inf_le (List.mem_map.mpr ⟨w, hw, rfl⟩)) (below w hw i e4 (Nat.le_refl i))
          | false =>
            rw [zz] at e2
            have e2 : sup ((B.ways s).map y) = some i := e2
            refine sup_le fun a ha => ?_
            obtain ⟨w, hw, rfl⟩ := List.mem_map.mp ha
            obtain ⟨i', e4, e5⟩ := sup_some e2 (y w) (List.mem_map.mpr ⟨w, hw, rfl⟩)
            exact ole_trans (below w hw i' e4 e5) e5
        refine ole_trans (map_add_le h3) ?_
        show t s + i ≤ j
        omega
theorem steps_end {B : Bd} {t : Nat → Nat} {g : Nat → Bool} {y : Vec} (ht : ∀ s, g s = false → 1 ≤ t s) (hy : Fix B t g y) (z : Nat → Vec) (hz : ∀ k s, s < B.m → z (k + 1) s = F B t g (z k) s) (hle : ∀ k, Le B y (z k)) {k : Nat} (hk : B.m ≤ k) :
    ∀ s, s < B.m → z k s = y s := fun s hs => by
  refine ole_antisymm ?_ (hle k s hs)
  cases e : y s with
  | none => exact ole_none _
  | some j =>
    refine steps_exact ht hy z hz k s j hs e ?_
    have h1 : rank y B.m j + 1 ≤ rank y B.m (j + 1) := rank_lt hs e (Nat.lt_succ_self j)
    have h2 := rank_le y B.m (j + 1)
    omega
/-! ### rounds: the same with tolls of one, spot by spot in the order in which they are drawn -/
def one : Nat → Nat := fun _ => 1
/-- after k rounds -/
structure Rnd (B : Bd) (g : Nat → Bool) (v : Vec) (k : Nat) : Prop where
  le : ∀ s j, s < B.m → v s = some j → j ≤ k
  ex : ∀ s j, s < B.m → v s = some j → F B one g v s = some j
  no : ∀ s, s < B.m → v s = none → ole (some (k + 1)) (F B one g v s)
theorem best_at {z : Bool} {l : List (Option Nat)} {k : Nat} (hl : l ≠ []) (h : ∀ j, some j ∈ l → k ≤ j) : ole (some k) (best z l) := by
  cases e : best z l with
  | none => trivial
  | some j => exact h j (best_mem hl e)
theorem Rnd.start {B : Bd} {g : Nat → Bool} {v : Vec} (h : ∀ s, s < B.m → v s = if g s then some 0 else none) : Rnd B g v 0 := by
  refine ⟨fun s j hs e => ?_, fun s j hs e => ?_, fun s hs e => ?_⟩
  · rw [h s hs] at e
    split at e
    · cases e; exact Nat.le_refl 0
    · cases e
  · rw [h s hs] at e
    split at e
    · rename_i hg
      cases e
      unfold F
      rw [if_pos hg]
    · cases e
  · rw [h s hs] at e
    split at e
    · cases e
    · rename_i hg
      unfold F
      rw [if_neg hg]
      cases best (B.own s) ((B.ways s).map v) with
      | none => trivial
      | some j => show 0 + 1 ≤ 1 + j; omega
/-- one more round: the spots that have none and whose best is known take k + 1 -/
theorem Rnd.next {B : Bd} {g : Nat → Bool} {v v' : Vec} {k : Nat} (h : Rnd B g v k)
    (h' : ∀ s, s < B.m → v' s = match v s with | some j => some j | none => if (best (B.own s) ((B.ways s).map v)).isSome then some (k + 1) else none) : Rnd B g v' (k + 1) := by
  have goal0 : ∀ s, s < B.m → g s = true → v s = some 0 := fun s hs hg => by
    cases e : v s with
    | none =>
      have := h.no s hs e
      unfold F at this
      rw [if_pos hg] at this
      exact absurd this (by show ¬ k + 1 ≤ 0; omega)
    | some j =>
      have := h.ex s j hs e
      unfold F at this
      rw [if_pos hg] at this
      rw [← this]
  have keep : ∀ s j, s < B.m → v s = some j → v' s = some j := fun s j hs e => by rw [h' s hs, e]
  have back : ∀ s j, s < B.m → v' s = some j → j ≤ k → v s = some j := fun s j hs e hj => by
    rw [h' s hs] at e
    cases q : v s with
    | some i => rw [q] at e; exact e
    | none =>
      rw [q] at e
      have e : (if (best (B.own s) ((B.ways s).map v)).isSome then some (k + 1) else none) = some j := e
      split at e
      · cases e; omega
      · cases e
  have newk : ∀ s j, s < B.m → v' s = some j → v s = none → j = k + 1 ∧ (best (B.own s) ((B.ways s).map v)).isSome = true := fun s j hs e q => by
    rw [h' s hs, q] at e
    have e : (if (best (B.own s) ((B.ways s).map v)).isSome then some (k + 1) else none) = some j := e
    split at e
    · rename_i hb
      exact ⟨(Option.some.inj e).symm, hb⟩
    · cases e
  -- the best does not change where it was known
  have same : ∀ s i, s < B.m → best (B.own s) ((B.ways s).map v) = some i → i ≤ k → best (B.own s) ((B.ways s).map v') = some i := fun s i hs e hi => by
    have hlt := B.lt s hs
    unfold best at e ⊢
    cases z : B.own s with
    | true =>
      rw [z] at e
      have e : inf ((B.ways s).map v) = some i := e
      show inf ((B.ways s).map v') = some i
      obtain ⟨w, hw, ew⟩ := List.mem_map.mp (inf_some e)
      have up := inf_le (List.mem_map.mpr ⟨w, hw, rfl⟩ : v' w ∈ (B.ways s).map v')
      rw [keep w i (hlt w hw) ew] at up
      obtain ⟨i', e', hi'⟩ := ole_some up
      obtain ⟨w', hw', ew'⟩ := List.mem_map.mp (inf_some e')
      have b1 := back w' i' (hlt w' hw') ew' (Nat.le_trans hi' hi)
      have lo := inf_le (List.mem_map.mpr ⟨w', hw', rfl⟩ : v w' ∈ (B.ways s).map v)
      rw [e, b1] at lo
      have lo : i ≤ i' := lo
      rw [e', Nat.le_antisymm hi' lo]
    | false =>
      rw [z] at e
      have e : sup ((B.ways s).map v) = some i := e
      show sup ((B.ways s).map v') = some i
      have em : (B.ways s).map v' = (B.ways s).map v := by
        refine List.map_congr_left fun w hw => ?_
        obtain ⟨i', e1, _⟩ := sup_some e (v w) (List.mem_map.mpr ⟨w, hw, rfl⟩)
        rw [e1]
        exact keep w i' (hlt w hw) e1
      rw [em]
      exact e
  have kmax : ∀ s i, s < B.m → best (B.own s) ((B.ways s).map v) = some i → i ≤ k := fun s i hs e => by
    obtain ⟨w, hw, ew⟩ := List.mem_map.mp (best_mem (by simp [B.ne s hs]) e)
    exact h.le w i (B.lt s hs w hw) ew
  refine ⟨fun s j hs e => ?_, fun s j hs e => ?_, fun s hs e => ?_⟩
  · cases q : v s with
    | some i =>
      rw [keep s i hs q] at e
      have ij : i = j := Option.some.inj e
      subst ij
      exact Nat.le_succ_of_le (h.le s i hs q)
    | none => rw [(newk s j hs e q).1]; exact Nat.le_refl _
  · cases q : v s with
    | some i =>
      rw [keep s i hs q] at e
      have ij : i = j := Option.some.inj e
      subst ij
      have e2 := h.ex s i hs q
      unfold F at e2 ⊢
      split
      · rename_i hg; rw [if_pos hg] at e2; exact e2
      · rename_i hg
        rw [if_neg hg] at e2
        cases e3 : best (B.own s) ((B.ways s).map v) with
        | none => rw [e3] at e2; cases e2
        | some c =>
          rw [e3] at e2
          rw [same s c hs e3 (kmax s c hs e3)]
          exact e2
    | none =>
      obtain ⟨rfl, hb⟩ := newk s j hs e q
      obtain ⟨c, hc⟩ := Option.isSome_iff_exists.mp hb
      have hg : g s = false := by
        cases q2 : g s with
        | true => rw [goal0 s hs q2] at q; cases q
        | false => rfl
      have e2 := h.no s hs q
      unfold F at e2 ⊢
      rw [hg] at e2 ⊢
      rw [if_neg (by simp), hc] at e2
      rw [if_neg (by simp), same s c hs hc (kmax s c hs hc)]
      have e2 : k + 1 ≤ 1 + c := e2
      have := kmax s c hs hc
      show some (1 + c) = some (k + 1)
      congr 1
      omega
  · have q : v s = none := by
      cases q : v s with
      | none => rfl
      | some i => rw [keep s i hs q] at e; cases e
    have hb : best (B.own s) ((B.ways s).map v) = none := by
      cases e2 : best (B.own s) ((B.ways s).map v) with
      | none => rfl
      | some c =>
        rw [h' s hs, q, e2] at e
        cases e
    have hg : g s = false := by
      cases q2 : g s with
      | true => rw [goal0 s hs q2] at q; cases q
      | false => rfl
    unfold F
    rw [hg, if_neg (by simp)]
    cases e3 : best (B.own s) ((B.ways s).map v') with
    | none => trivial
    | some c =>
      show k + 1 + 1 ≤ 1 + c
      have hck : k < c := by
        refine Nat.lt_of_not_le fun hle => ?_
        -- then it would have been known
        unfold best at e3 hb
        cases z : B.own s with
        | true =>
          rw [z] at e3 hb
          have e3 : inf ((B.ways s).map v') = some c := e3
          have hb : inf ((B.ways s).map v) = none := hb
          obtain ⟨w, hw, ew⟩ := List.mem_map.mp (inf_some e3)
          have b1 := back w c (B.lt s hs w hw) ew hle
          have lo := inf_le (List.mem_map.mpr ⟨w, hw, rfl⟩ : v w ∈ (B.ways s).map v)
          rw [hb, b1] at lo
          exact lo
        | false =>
          rw [z] at e3 hb
          have e3 : sup ((B.ways s).map v') = some c := e3
          have hb : sup ((B.ways s).map v) = none := hb
          have em : (B.ways s).map v = (B.ways s).map v' := by
            refine List.map_congr_left fun w hw => ?_
            obtain ⟨i', e1, e2⟩ := sup_some e3 (v' w) (List.mem_map.mpr ⟨w, hw, rfl⟩)
            rw [e1]
            exact back w i' (B.lt s hs w hw) e1 (Nat.le_trans e2 hle)
          rw [em, e3] at hb
          cases hb
      omega
/-- no spot is left that could be drawn: the fixpoint -/
theorem Rnd.fix {B : Bd} {g : Nat → Bool} {v : Vec} {k : Nat} (h : Rnd B g v k) (e : ∀ s, s < B.m → v s = none → best (B.own s) ((B.ways s).map v) = none) : Fix B one g v := fun s hs => by
  cases q : v s with
  | some j => exact h.ex s j hs q
  | none =>
    have hb := e s hs q
    unfold F
    split
    · rename_i hg
      have := h.no s hs q
      unfold F at this
      rw [if_pos hg] at this
      exact absurd this (by show ¬ k + 1 ≤ 0; omega)
    · rw [hb]; rfl
end M47
set_option Elab.async false
set_option linter.all false
set_option maxRecDepth 100000
set_option maxHeartbeats 1000000
/-! Wg: tolls, the program's side. Plain Lean. -/
namespace Wg
abbrev Brd := List (Bool × List Nat)
def spD (p : Bool × List Nat) : D := .tup [.int (if p.1 then 0 else 1), .tup (nD p.2)]
def bD (b : Brd) : D := .tup (b.map spD)
def vD (v : List (Option Nat)) : D := .tup (v.map oD)
/-- a board as it is drawn -/
structure GB (b : Brd) : Prop where
  small : b.length ≤ 1000
  ne : ∀ p ∈ b, p.2 ≠ []
  lt : ∀ p ∈ b, ∀ w ∈ p.2, w < b.length
def spot (b : Brd) (s : Nat) : Bool × List Nat := b.getD s (true, [])
def toB (b : Brd) (h : GB b) : M47.Bd := ⟨b.length, fun s => (spot b s).1, fun s => (spot b s).2, fun s hs => h.ne _ (by unfold spot; simp [List.getD, hs]), fun s hs => h.lt _ (by unfold spot; simp [List.getD, hs])⟩
def vec (v : List (Option Nat)) : M47.Vec := fun s => v.getD s none
def tl (t : List Nat) : Nat → Nat := fun s => t.getD s 1
def gl (g : List Nat) : Nat → Bool := fun s => decide (s ∈ g)
/-- one step, as a list -/
def stepV (b : Brd) (h : GB b) (t g : List Nat) (v : List (Option Nat)) : List (Option Nat) := (List.range b.length).map fun s => M47.F (toB b h) (tl t) (gl g) (vec v) s
theorem spot_get {b : Brd} {s : Nat} (hs : s < b.length) : b[s]? = some (spot b s) := by
  unfold spot
  simp [List.getD, hs]
theorem sums_after_ok (Φ : Ctx) {b : Brd} (hb : GB b) {t g : List Nat} {v : List (Option Nat)} (ht : t.length = b.length) (hv : v.length = b.length) {Q : D → Prop} (q : Q (vD (stepV b hb t g v))) :
    wF Φ f_sums_after [bD b, .tup (nD t), .tup (nD g), vD v] Q := by
  refine ⟨rfl, by decide, ?_⟩
  ((repeat ((conv => whnf); refine And.intro (by first | exact trivial | exact rfl | omega | assumption | decide | exact pls_nD _ _) ?_)); (conv => whnf))
  have hs := hb.small
  have hl : (b.map spD).length = b.length := List.length_map ..
  refine And.intro (by rw [hl]; unfold LB; omega) (And.intro (by omega) ?_)
  rw [hl, rangeD_nat]
  refine foW_inv (I := fun i ρ => i ≤ b.length ∧ ∃ s5 s6 s7 s8 s9, ρ = [.sh (bD b), .sh (.tup (nD t)), .sh (.tup (nD g)), .sh (vD v), .ol (((stepV b hb t g v).take i).map oD), s5, s6, s7, s8, s9, .un, .un]) ?_ ?_ ?_
  · exact ⟨Nat.zero_le _, _, _, _, _, _, rfl⟩
  · rintro i d ρ K hd ⟨hi, s5, s6, s7, s8, s9, rfl⟩ hK
    have hlt : i < b.length := by
      have := (List.getElem?_eq_some_iff.mp hd).1
      simpa [nD] using this
    have ed : d = .int (i : Int) := by
      have : (nD (List.range b.length))[i]? = some (.int (i : Int)) := nD_get (by simp [hlt])
      rw [this] at hd
      exact (Option.some.inj hd).symm
    subst ed
    have hsp := spot_get hlt
    have wlt : ∀ w ∈ (spot b i).2, w < b.length := (toB b hb).lt i hlt
    ((repeat ((conv => whnf); refine And.intro (by first | exact trivial | exact rfl | omega | assumption | decide | exact pls_nD _ _) ?_)); (conv => whnf))
    refine idxL_nat (d := spD (spot b i)) (by simp [hsp]) ?_
    ((repeat ((conv => whnf); refine And.intro (by first | exact trivial | exact rfl | omega | assumption | decide | exact pls_nD _ _) ?_)); (conv => whnf))
    refine lcW_onMap (fun (n : Nat) => D.int (n : Int)) (fun w => oD (vec v w)) (spot b i).2 (fun w hw K hK => ?_) ?_
    · ((repeat ((conv => whnf); refine And.intro (by first | exact trivial | exact rfl | omega | assumption | decide | exact pls_nD _ _) ?_)); (conv => whnf))
      refine idxL_nat (d := oD (vec v w)) ?_ ?_
      · have := wlt w hw
        simp [vec, List.getD, show w < v.length by omega]
      · exact hK
    (try simp only [List.set_cons_succ, List.set_cons_zero, freezeI, wipeE, backE, freeze, freezes, behind, List.getElem?_cons_succ, List.getElem?_cons_zero, Slot.val, Option.getD_some, ite_self])
    ((repeat ((conv => whnf); refine And.intro (by first | exact trivial | exact rfl | omega | assumption | decide | exact pls_nD _ _) ?_)); (conv => whnf))
    have enear : (spot b i).2.map (fun w => oD (vec v w)) = ((spot b i).2.map (vec v)).map oD := by rw [List.map_map]; rfl
    rw [enear]
    refine lcW_on oD (fun o => o.map fun (k : Nat) => D.int (k : Int)) ((spot b i).2.map (vec v)) (fun o ho K hK => ?_) ?_
    · cases o with
      | none =>
        ((repeat ((conv => whnf); refine And.intro (by first | exact trivial | exact rfl | omega | assumption | decide | exact pls_nD _ _) ?_)); (conv => whnf))
        exact hK
      | some k =>
        ((repeat ((conv => whnf); refine And.intro (by first | exact trivial | exact rfl | omega | assumption | decide | exact pls_nD _ _) ?_)); (conv => whnf))
        exact hK
    have eknown : ((spot b i).2.map (vec v)).filterMap (fun o => o.map fun (k : Nat) => D.int (k : Int)) = nD (((spot b i).2.map (vec v)).filterMap id) := by
      unfold nD
      rw [List.map_filterMap]
      rfl
    rw [eknown]
    (try simp only [List.set_cons_succ, List.set_cons_zero, freezeI, wipeE, backE, freeze, freezes, behind, List.getElem?_cons_succ, List.getElem?_cons_zero, Slot.val, Option.getD_some, ite_self])
    have fin : ∀ (o : Option Nat) (s7 s8 s9 : Slot), o = M47.F (toB b hb) (tl t) (gl g) (vec v) i → ∀ s5 s6 : Slot, K [.sh (bD b), .sh (.tup (nD t)), .sh (.tup (nD g)), .sh (vD v), .ol (((stepV b hb t g v).take i).map oD ++ [oD o]), s5, s6, s7, s8, s9, .un, .un] := fun o s7 s8 s9 e s5 s6 => by
      refine hK _ ⟨by omega, s5, s6, s7, s8, s9, ?_⟩
      have e2 : (stepV b hb t g v)[i]? = some o := by
        unfold stepV
        simp [hlt, e]
      rw [List.take_succ, e2]
      simp
    have lacc : (((stepV b hb t g v).take i).map oD).length < LB := by
      have : (stepV b hb t g v).length = b.length := by simp [stepV]
      simp [this, LB]
      omega
    ((repeat ((conv => whnf); refine And.intro (by first | exact trivial | exact rfl | omega | assumption | decide | exact pls_nD _ _) ?_)); (conv => whnf))
    rw [any_nD]
    (try simp only [List.set_cons_succ, List.set_cons_zero, freezeI, wipeE, backE, freeze, freezes, behind, List.getElem?_cons_succ, List.getElem?_cons_zero, Slot.val, Option.getD_some, ite_self])
    refine bif_by (fun h => ?_) (fun h => ?_)
    · ((repeat ((conv => whnf); refine And.intro (by first | exact trivial | exact rfl | omega | assumption | decide | exact pls_nD _ _) ?_)); (conv => whnf))
      refine fin (some 0) _ _ _ ?_ _ _
      unfold M47.F
      have : gl g i = true := h
      rw [if_pos this]
    · have hg : gl g i = false := h
      generalize hkn : ((spot b i).2.map (vec v)).filterMap id = kn
      have hF : M47.F (toB b hb) (tl t) (gl g) (vec v) i = (M47.best (spot b i).1 ((spot b i).2.map (vec v))).map (tl t i + ·) := by
        unfold M47.F
        rw [hg]
        rfl
      have hle : kn.length ≤ ((spot b i).2.map (vec v)).length := by rw [← hkn]; exact List.length_filterMap_le _ _
      have lnear : (((spot b i).2.map (vec v)).map oD).length = (spot b i).2.length := by simp
      have none_case : kn.length = 0 ∨ ((spot b i).1 = false ∧ kn.length < (spot b i).2.length) → none = M47.F (toB b hb) (tl t) (gl g) (vec v) i := fun h => by
        rw [hF]
        rcases h with h | ⟨h1, h2⟩
        · have e0 : kn = [] := List.eq_nil_of_length_eq_zero h
          subst e0
          cases z : (spot b i).1 with
          | true =>
            show none = (M47.inf _).map _
            rw [M47.inf_none hkn]; rfl
          | false =>
            show none = (M47.sup _).map _
            rw [M47.sup_unknown (by rw [hkn]; simp; exact List.length_pos_iff.mpr ((toB b hb).ne i hlt))]; rfl
        · rw [h1]
          show none = (M47.sup _).map _
          rw [M47.sup_unknown (by rw [hkn]; simpa using h2)]; rfl
      ((repeat ((conv => whnf); refine And.intro (by first | exact trivial | exact rfl | omega | assumption | decide | exact pls_nD _ _) ?_)); (conv => whnf))
      refine bif_by (fun h1 => ?_) (fun h1 => ?_)
      · ((repeat ((conv => whnf); refine And.intro (by first | exact trivial | exact rfl | omega | assumption | decide | exact pls_nD _ _) ?_)); (conv => whnf))
        refine fin none _ _ _ (none_case (.inl ?_)) _ _
        simpa [Slot.val, D.eqv, nD] using h1
      · have k0 : kn.length ≠ 0 := by simpa [Slot.val, D.eqv, nD] using h1
        ((repeat ((conv => whnf); refine And.intro (by first | exact trivial | exact rfl | omega | assumption | decide | exact pls_nD _ _) ?_)); (conv => whnf))
        refine bif_by (fun h2 => ?_) (fun h2 => ?_)
        · have o1 : (spot b i).1 = false := by
            cases z : (spot b i).1 with
            | true => rw [z] at h2; cases h2
            | false => rfl
          ((repeat ((conv => whnf); refine And.intro (by first | exact trivial | exact rfl | omega | assumption | decide | exact pls_nD _ _) ?_)); (conv => whnf))
          refine bif_by (fun h3 => ?_) (fun h3 => ?_)
          · ((repeat ((conv => whnf); refine And.intro (by first | exact trivial | exact rfl | omega | assumption | decide | exact pls_nD _ _) ?_)); (conv => whnf))
            refine fin none _ _ _ (none_case (.inr ⟨o1, ?_⟩)) _ _
            simpa [Slot.val, D.lt, nD] using h3
          · have notless : (spot b i).1 = false → ¬ kn.length < (spot b i).2.length := fun _ => by simpa [Slot.val, D.lt, nD] using h3
            obtain ⟨k, ks, hk⟩ : ∃ k ks, kn = k :: ks := by
              cases kn with
              | nil => exact (k0 rfl).elim
              | cons k ks => exact ⟨k, ks, rfl⟩
            ((repeat ((conv => whnf); refine And.intro (by first | exact trivial | exact rfl | omega | assumption | decide | exact pls_nD _ _) ?_)); (conv => whnf))
            refine idxL_nat (d := .int (tl t i : Nat)) (nD_get (by simp [tl, List.getD, show i < t.length by omega])) ?_
            ((repeat ((conv => whnf); refine And.intro (by first | exact trivial | exact rfl | omega | assumption | decide | exact pls_nD _ _) ?_)); (conv => whnf))
            refine bif_by (fun h5 => ?_) (fun h5 => ?_)
            · have o2 : (spot b i).1 = true := by
                cases z : (spot b i).1 with
                | true => rfl
                | false => rw [z] at h5; cases h5
              ((repeat ((conv => whnf); refine And.intro (by first | exact trivial | exact rfl | omega | assumption | decide | exact pls_nD _ _) ?_)); (conv => whnf))
              refine min_okE hk ?_
              ((repeat ((conv => whnf); refine And.intro (by first | exact trivial | exact rfl | omega | assumption | decide | exact pls_nD _ _) ?_)); (conv => whnf))
              refine fin (some (tl t i + ks.foldl min k)) _ _ _ ?_ _ _
              rw [hF, o2]
              show _ = (M47.inf _).map _
              rw [M47.inf_known, hkn, hk]
              show _ = (M47.inf (some k :: ks.map some)).map _
              rw [M47.foldl_min]; rfl
            · have o2 : (spot b i).1 = false := by
                cases z : (spot b i).1 with
                | true => rw [z] at h5; cases h5
                | false => rfl
              ((repeat ((conv => whnf); refine And.intro (by first | exact trivial | exact rfl | omega | assumption | decide | exact pls_nD _ _) ?_)); (conv => whnf))
              refine max_okE hk ?_
              ((repeat ((conv => whnf); refine And.intro (by first | exact trivial | exact rfl | omega | assumption | decide | exact pls_nD _ _) ?_)); (conv => whnf))
              refine fin (some (tl t i + ks.foldl max k)) _ _ _ ?_ _ _
              have full : kn.length = ((spot b i).2.map (vec v)).length := by
                have := notless o2
                simp at this ⊢
                simp at hle
                omega
              rw [hF, o2]
              show _ = (M47.sup _).map _
              rw [M47.all_known (l := (spot b i).2.map (vec v)) (by rw [hkn]; exact full), hkn, hk]
              show _ = (M47.sup (some k :: ks.map some)).map _
              rw [M47.foldl_max]; rfl
        · have o1 : (spot b i).1 = true := by
            cases z : (spot b i).1 with
            | true => rfl
            | false => rw [z] at h2; cases h2
          have notless : (spot b i).1 = false → ¬ kn.length < (spot b i).2.length := fun z => by rw [o1] at z; cases z
          obtain ⟨k, ks, hk⟩ : ∃ k ks, kn = k :: ks := by
            cases kn with
            | nil => exact (k0 rfl).elim
            | cons k ks => exact ⟨k, ks, rfl⟩
          · ((repeat ((conv => whnf); refine And.intro (by first | exact trivial | exact rfl | omega | assumption | decide | exact pls_nD _ _) ?_)); (conv => whnf))
            refine idxL_nat (d := .int (tl t i : Nat)) (nD_get (by simp [tl, List.getD, show i < t.length by omega])) ?_
            ((repeat ((conv => whnf); refine And.intro (by first | exact trivial | exact rfl | omega | assumption | decide | exact pls_nD _ _) ?_)); (conv => whnf))
            refine bif_by (fun h5 => ?_) (fun h5 => ?_)
            · have o2 : (spot b i).1 = true := by
                cases z : (spot b i).1 with
                | true => rfl
                | false => rw [z] at h5; cases h5
              ((repeat ((conv => whnf); refine And.intro (by first | exact trivial | exact rfl | omega | assumption | decide | exact pls_nD _ _) ?_)); (conv => whnf))
              refine min_okE hk ?_
              ((repeat ((conv => whnf); refine And.intro (by first | exact trivial | exact rfl | omega | assumption | decide | exact pls_nD _ _) ?_)); (conv => whnf))
              refine fin (some (tl t i + ks.foldl min k)) _ _ _ ?_ _ _
              rw [hF, o2]
              show _ = (M47.inf _).map _
              rw [M47.inf_known, hkn, hk]
              show _ = (M47.inf (some k :: ks.map some)).map _
              rw [M47.foldl_min]; rfl
            · have o2 : (spot b i).1 = false := by
                cases z : (spot b i).1 with
                | true => rw [z] at h5; cases h5
                | false => rfl
              ((repeat ((conv => whnf); refine And.intro (by first | exact trivial | exact rfl | omega | assumption | decide | exact pls_nD _ _) ?_)); (conv => whnf))
              refine max_okE hk ?_
              ((repeat ((conv => whnf); refine And.intro (by first | exact trivial | exact rfl | omega | assumption | decide | exact pls_nD _ _) ?_)); (conv => whnf))
              refine fin (some (tl t i + ks.foldl max k)) _ _ _ ?_ _ _
              have full : kn.length = ((spot b i).2.map (vec v)).length := by
                have := notless o2
                simp at this ⊢
                simp at hle
                omega
              rw [hF, o2]
              show _ = (M47.sup _).map _
              rw [M47.all_known (l := (spot b i).2.map (vec v)) (by rw [hkn]; exact full), hkn, hk]
              show _ = (M47.sup (some k :: ks.map some)).map _
              rw [M47.foldl_max]; rfl
  · rintro ρ ⟨_, s5, s6, s7, s8, s9, rfl⟩
    ((repeat ((conv => whnf); refine And.intro (by first | exact trivial | exact rfl | omega | assumption | decide | exact pls_nD _ _) ?_)); (conv => whnf))
    have e : (stepV b hb t g v).take (nD (List.range b.length)).length = stepV b hb t g v := List.take_of_length_le (by simp [stepV, nD])
    rw [e]
    exact q
/-- where one begins -/
def startV (m : Nat) (g : List Nat) : List (Option Nat) := (List.range m).map fun s => if gl g s then some 0 else none
theorem stepV_len {b : Brd} {hb : GB b} {t g : List Nat} {v : List (Option Nat)} : (stepV b hb t g v).length = b.length := by simp [stepV]
theorem startV_len {m : Nat} {g : List Nat} : (startV m g).length = m := by simp [startV]
theorem vec_stepV {b : Brd} {hb : GB b} {t g : List Nat} {v : List (Option Nat)} {s : Nat} (hs : s < b.length) : vec (stepV b hb t g v) s = M47.F (toB b hb) (tl t) (gl g) (vec v) s := by
  simp [vec, stepV, List.getD, hs]
theorem vec_ext {m : Nat} {v w : List (Option Nat)} (hv : v.length = m) (hw : w.length = m) (h : ∀ s, s < m → vec v s = vec w s) : v = w := by
  apply List.ext_getElem?
  intro i
  by_cases c : i < m
  · have := h i c
    simp only [vec, List.getD] at this
    rw [List.getElem?_eq_getElem (by omega), List.getElem?_eq_getElem (by omega)] at this ⊢
    simpa using this
  · rw [List.getElem?_eq_none (by omega), List.getElem?_eq_none (by omega)]
/-- a vector is going down -/
def Down (b : Brd) (hb : GB b) (t g : List Nat) (v : List (Option Nat)) : Prop := v.length = b.length ∧ M47.Le (toB b hb) (vec (stepV b hb t g v)) (vec v)
theorem Down.start {b : Brd} {hb : GB b} {t g : List Nat} : Down b hb t g (startV b.length g) := by
  refine ⟨startV_len, fun s hs => ?_⟩
  have hs : s < b.length := hs
  rw [vec_stepV hs]
  have e : vec (startV b.length g) s = if gl g s then some 0 else none := by simp [vec, startV, List.getD, hs]
  rw [e]
  unfold M47.F
  split
  · exact M47.ole_refl _
  · exact M47.ole_none _
theorem Down.next {b : Brd} {hb : GB b} {t g : List Nat} {v : List (Option Nat)} (h : Down b hb t g v) : Down b hb t g (stepV b hb t g v) := by
  refine ⟨stepV_len, fun s hs => ?_⟩
  rw [vec_stepV hs, vec_stepV hs]
  exact M47.F_mono h.2 s hs
theorem Down.allLe {b : Brd} {hb : GB b} {t g : List Nat} {v : List (Option Nat)} (h : Down b hb t g v) : M47.AllLe (stepV b hb t g v) v := by
  have e1 : stepV b hb t g v = (List.range b.length).map (vec (stepV b hb t g v)) := vec_ext stepV_len (by simp) fun s hs => by simp [vec, List.getD, hs]
  have e2 : v = (List.range b.length).map (vec v) := vec_ext h.1 (by simp) fun s hs => by simp [vec, List.getD, hs]
  have := M47.allLe_map (f := vec (stepV b hb t g v)) (g := vec v) (l := List.range b.length) fun s hs => h.2 s (List.mem_range.mp hs)
  rw [← e1, ← e2] at this
  exact this
theorem eqv_oD (a b : Option Nat) : D.eqv (oD a) (oD b) = decide (a = b) := by
  cases a with
  | none => cases b <;> rfl
  | some a =>
    cases b with
    | none => rfl
    | some b =>
      show ((a : Int) == (b : Int)) = decide (some a = some b)
      rw [Bool.eq_iff_iff]
      simp
      omega
theorem eqvs_oD : ∀ (v w : List (Option Nat)), D.eqvs (v.map oD) (w.map oD) = decide (v = w)
  | [], [] => rfl
  | [], _ :: _ => rfl
  | _ :: _, [] => rfl
  | a :: v, b :: w => by
    show (D.eqv (oD a) (oD b) && D.eqvs (v.map oD) (w.map oD)) = _
    rw [eqv_oD, eqvs_oD v w, Bool.eq_iff_iff]
    simp
theorem pl_vD (v : List (Option Nat)) : D.pl 9 (vD v) = true := pl_tup (n := 8) (pls_all fun x hx => by
  obtain ⟨k, _, rfl⟩ := List.mem_map.mp hx
  exact pl_oD 8 k)
/-- k steps from the start -/
def itV (b : Brd) (hb : GB b) (t g : List Nat) : Nat → List (Option Nat)
  | 0 => startV b.length g
  | k + 1 => stepV b hb t g (itV b hb t g k)
theorem itV_down {b : Brd} {hb : GB b} {t g : List Nat} : ∀ k, Down b hb t g (itV b hb t g k)
  | 0 => Down.start
  | k + 1 => (itV_down k).next
/-- a fixpoint below -/
theorem Down.fix {b : Brd} {hb : GB b} {t g : List Nat} (v : List (Option Nat)) : Down b hb t g v → ∃ y, y.length = b.length ∧ stepV b hb t g y = y ∧ M47.Le (toB b hb) (vec y) (vec v) := by
  induction v using M47.less_wf.induction with
  | _ v ih =>
    intro h
    by_cases e : stepV b hb t g v = v
    · exact ⟨v, h.1, e, fun s _ => M47.ole_refl _⟩
    · obtain ⟨y, y1, y2, y3⟩ := ih _ (h.allLe.lt e) h.next
      exact ⟨y, y1, y2, fun s hs => M47.ole_trans (y3 s hs) (h.2 s hs)⟩
theorem fix_of {b : Brd} {hb : GB b} {t g : List Nat} {y : List (Option Nat)} (h : stepV b hb t g y = y) : M47.Fix (toB b hb) (tl t) (gl g) (vec y) := fun s hs => by
  have := vec_stepV (hb := hb) (t := t) (g := g) (v := y) hs
  rw [h] at this
  exact this.symm
theorem itV_end {b : Brd} {hb : GB b} {t g : List Nat} (ht : ∀ s, gl g s = false → 1 ≤ tl t s) {k : Nat} (hk : b.length ≤ k) : stepV b hb t g (itV b hb t g k) = itV b hb t g k := by
  obtain ⟨y, y1, y2, y3⟩ := Down.fix _ (Down.start (b := b) (hb := hb) (t := t) (g := g))
  have hy := fix_of y2
  have hz : ∀ k s, s < (toB b hb).m → vec (itV b hb t g (k + 1)) s = M47.F (toB b hb) (tl t) (gl g) (vec (itV b hb t g k)) s := fun k s hs => vec_stepV hs
  have hle : ∀ k, M47.Le (toB b hb) (vec y) (vec (itV b hb t g k)) := by
    intro k
    induction k with
    | zero => exact y3
    | succ k ih =>
      intro s hs
      rw [hz k s hs, ← hy s hs]
      exact M47.F_mono ih s hs
  have e : ∀ k, b.length ≤ k → itV b hb t g k = y := fun k hk => vec_ext (itV_down k).1 y1 fun s hs => M47.steps_end ht hy (fun k => vec (itV b hb t g k)) hz hle hk s hs
  have e1 := e k hk
  have e2 := e (k + 1) (by omega)
  rw [e1]
  exact y2
/-- sums_by_moves: a list that ends with the vector that its step leaves -/
theorem sums_by_moves_ok (Φ : Ctx) {b : Brd} (hb : GB b) {t g : List Nat} (ht : t.length = b.length) (ht1 : ∀ s, gl g s = false → 1 ≤ tl t s)
    (hF : ∀ (v : List (Option Nat)) (Q : D → Prop), v.length = b.length → Q (vD (stepV b hb t g v)) → Φ.F 209 [bD b, .tup (nD t), .tup (nD g), vD v] Q)
    {Q : D → Prop} (q : ∀ (l : List D) (v : List (Option Nat)), v.length = b.length → stepV b hb t g v = v → Q (.lst (l ++ [vD v]))) :
    wF Φ f_sums_by_moves [bD b, .tup (nD t), .tup (nD g)] Q := by
  refine ⟨rfl, by decide, ?_⟩
  ((repeat ((conv => whnf); refine And.intro (by first | exact trivial | exact rfl | omega | assumption | decide | exact pls_nD _ _) ?_)); (conv => whnf))
  have hs := hb.small
  have hl : (b.map spD).length = b.length := List.length_map ..
  refine And.intro (by rw [hl]; unfold LB; omega) (And.intro (by omega) ?_)
  rw [hl, rangeD_nat]
  refine lcW_onMap (fun (n : Nat) => D.int (n : Int)) (fun s => oD (if gl g s then some 0 else none)) (List.range b.length) (fun s hs K hK => ?_) ?_
  · ((repeat ((conv => whnf); refine And.intro (by first | exact trivial | exact rfl | omega | assumption | decide | exact pls_nD _ _) ?_)); (conv => whnf))
    rw [any_nD]
    (try simp only [List.set_cons_succ, List.set_cons_zero, freezeI, wipeE, backE, freeze, freezes, behind, List.getElem?_cons_succ, List.getElem?_cons_zero, Slot.val, Option.getD_some, ite_self])
    refine bif_by (fun h => ?_) (fun h => ?_)
    · ((repeat ((conv => whnf); refine And.intro (by first | exact trivial | exact rfl | omega | assumption | decide | exact pls_nD _ _) ?_)); (conv => whnf))
      have h : gl g s = true := h
      rw [h] at hK
      exact hK
    · ((repeat ((conv => whnf); refine And.intro (by first | exact trivial | exact rfl | omega | assumption | decide | exact pls_nD _ _) ?_)); (conv => whnf))
      have h : gl g s = false := h
      rw [h] at hK
      exact hK
  have e0 : (List.range b.length).map (fun s => oD (if gl g s then some 0 else none)) = (startV b.length g).map oD := by
    unfold startV
    rw [List.map_map]
    rfl
  rw [e0]
  (try simp only [List.set_cons_succ, List.set_cons_zero, freezeI, wipeE, backE, freeze, freezes, behind, List.getElem?_cons_succ, List.getElem?_cons_zero, Slot.val, Option.getD_some, ite_self])
  ((repeat ((conv => whnf); refine And.intro (by first | exact trivial | exact rfl | omega | assumption | decide | exact pls_nD _ _) ?_)); (conv => whnf))
  refine ⟨b.length + 1, whW_inv (I := fun n ρ => ∃ k l s4, n = b.length - k ∧ k ≤ b.length ∧ l.length = k ∧ ρ = [.sh (bD b), .sh (.tup (nD t)), .sh (.tup (nD g)), .ol (l ++ [vD (itV b hb t g k)]), s4, .un]) ?_ b.length _ ⟨0, [], .un, rfl, Nat.zero_le _, rfl, rfl⟩ _ (Nat.lt_succ_self _)⟩
  rintro n ρ K ⟨k, l, s4, hn, hk, hlk, rfl⟩ hK
  ((repeat ((conv => whnf); refine And.intro (by first | exact trivial | exact rfl | omega | assumption | decide | exact pls_nD _ _) ?_)); (conv => whnf))
  refine idxL_last ?_
  ((repeat ((conv => whnf); refine And.intro (by first | exact trivial | exact rfl | omega | assumption | decide | exact pls_nD _ _) ?_)); (conv => whnf))
  refine hF _ _ (itV_down k).1 ?_
  (try simp only [List.set_cons_succ, List.set_cons_zero, freezeI, wipeE, backE, freeze, freezes, behind, List.getElem?_cons_succ, List.getElem?_cons_zero, Slot.val, Option.getD_some, ite_self])
  ((repeat ((conv => whnf); refine And.intro (by first | exact trivial | exact rfl | omega | assumption | decide | exact pls_nD _ _) ?_)); (conv => whnf))
  refine idxL_last ?_
  ((repeat ((conv => whnf); refine And.intro (by first | exact trivial | exact rfl | omega | assumption | decide | exact pls_nD _ _) ?_)); (conv => whnf))
  refine And.intro (pl_vD _) (And.intro (pl_vD _) ?_)
  have ee : D.eqv (vD (stepV b hb t g (itV b hb t g k))) (vD (itV b hb t g k)) = decide (stepV b hb t g (itV b hb t g k) = itV b hb t g k) := eqvs_oD _ _
  refine bif_by (fun h => ?_) (fun h => ?_)
  · have h' := ee.symm.trans h
    ((repeat ((conv => whnf); refine And.intro (by first | exact trivial | exact rfl | omega | assumption | decide | exact pls_nD _ _) ?_)); (conv => whnf))
    exact q l _ (itV_down k).1 (of_decide_eq_true h')
  · have h' := of_decide_eq_false (ee.symm.trans h)
    have hkl : k < b.length := by
      rcases Nat.lt_or_ge k b.length with c | c
      · exact c
      · exact (h' (itV_end ht1 c)).elim
    have hlb : (l ++ [vD (itV b hb t g k)]).length < LB := by
      simp [LB]
      omega
    ((repeat ((conv => whnf); refine And.intro (by first | exact trivial | exact rfl | omega | assumption | decide | exact pls_nD _ _) ?_)); (conv => whnf))
    exact hK (b.length - (k + 1)) _ (by omega) ⟨k + 1, l ++ [vD (itV b hb t g k)], _, rfl, hkl, by simp [hlk], rfl⟩
/-- the defs of this law -/
structure Has47 (P : Prog) : Prop where
  after : P.fns 209 = some f_sums_after
  moves : P.fns 210 = some f_sums_by_moves
  least : P.fns 141 = some f_least_tolls
  steps : P.fns 65 = some f_drawing_steps
  drawn : P.fns 67 = some f_drawn_in
  need : P.fns 162 = some f_need_of
  risen : P.fns 198 = some f_risen
  stores : P.fns 140 = some f_least_stores
theorem least_tolls_ok {P : Prog} (hP : Has47 P) {n : Nat} {b : Brd} (hb : GB b) {t g : List Nat} (ht : t.length = b.length) (ht1 : ∀ s, gl g s = false → 1 ≤ tl t s) {Q : D → Prop}
    (q : ∀ v : List (Option Nat), v.length = b.length → stepV b hb t g v = v → Q (vD v)) : run P (n + 3) 141 [bD b, .tup (nD t), .tup (nD g)] Q := by
  refine run_of hP.least (by decide) ⟨rfl, by decide, ?_⟩
  ((repeat ((conv => whnf); refine And.intro (by first | exact trivial | exact rfl | omega | assumption | decide | exact pls_nD _ _) ?_)); (conv => whnf))
  refine run_of hP.moves (by decide) (sums_by_moves_ok _ hb ht ht1 (fun v Q hv h => run_of hP.after (by decide) (sums_after_ok _ hb ht hv h)) fun l v hv hs => ?_)
  (try simp only [List.set_cons_succ, List.set_cons_zero, freezeI, wipeE, backE, freeze, freezes, behind, List.getElem?_cons_succ, List.getElem?_cons_zero, Slot.val, Option.getD_some, ite_self])
  ((repeat ((conv => whnf); refine And.intro (by first | exact trivial | exact rfl | omega | assumption | decide | exact pls_nD _ _) ?_)); (conv => whnf))
  refine idxL_last ?_
  exact q v hv hs
/-- is the spot drawn in this round? -/
def isFresh (b : Brd) (p : Bool) (v : List (Option Nat)) (s : Nat) : Bool := (vec v s).isNone && (M47.best ((spot b s).1 == p) ((spot b s).2.map (vec v))).isSome
theorem any_known (l : List (Option Nat)) : (l.map fun o => o.isSome).any id = (M47.inf l).isSome := by
  induction l with
  | nil => rfl
  | cons a l ih =>
    rw [List.map_cons, List.any_cons, ih]
    cases a with
    | none => simp [M47.inf, M47.omin]
    | some a => cases e : M47.inf l <;> simp [M47.inf, M47.omin, e]
theorem all_known (l : List (Option Nat)) : (l.map fun o => o.isSome).all id = (M47.sup l).isSome := by
  induction l with
  | nil => rfl
  | cons a l ih =>
    rw [List.map_cons, List.all_cons, ih]
    cases a with
    | none => simp [M47.sup, M47.omax]
    | some a => cases e : M47.sup l <;> simp [M47.sup, M47.omax, e]
/-- setting the fresh spots, one behind another -/
theorem set_fold (n : Nat) : ∀ (fr : List Nat) (v : List (Option Nat)) (i : Nat), (fr.foldl (fun v s => v.set s (some n)) v)[i]? = if i ∈ fr ∧ i < v.length then some (some n) else v[i]?
  | [], v, i => by simp
  | s :: fr, v, i => by
    rw [List.foldl_cons, set_fold n fr]
    simp only [List.length_set, List.mem_cons, List.getElem?_set]
    by_cases c1 : i ∈ fr
    · by_cases c2 : i < v.length
      · simp [c1, c2]
      · simp [c1, c2]
        intro e
        subst e
        omega
    · by_cases c3 : s = i
      · subst c3
        by_cases c2 : s < v.length
        · simp [c1, c2]
        · simp [c1, c2]
      · have : ¬ i = s := fun e => c3 e.symm
        simp [c1, c3, this]
theorem nones_set (n : Nat) : ∀ (v : List (Option Nat)) (s : Nat), v[s]? = some none → M47.nones (v.set s (some n)) + 1 = M47.nones v
  | [], s, h => by simp at h
  | a :: v, 0, h => by
    have : a = none := by simpa using h
    subst this
    rfl
  | a :: v, s + 1, h => by
    have ih := nones_set n v s (by simpa using h)
    cases a with
    | none => show M47.nones (v.set s (some n)) + 1 + 1 = M47.nones v + 1; omega
    | some a => exact ih
theorem nones_fold (n : Nat) : ∀ (fr : List Nat) (v : List (Option Nat)), fr.Nodup → (∀ s ∈ fr, v[s]? = some none) → M47.nones (fr.foldl (fun v s => v.set s (some n)) v) + fr.length = M47.nones v
  | [], v, _, _ => rfl
  | s :: fr, v, hd, h => by
    obtain ⟨h1, h2⟩ := List.nodup_cons.mp hd
    have e1 := nones_set n v s (h s List.mem_cons_self)
    have e2 := nones_fold n fr (v.set s (some n)) h2 fun i hi => by
      have : s ≠ i := fun e => h1 (e ▸ hi)
      rw [List.getElem?_set_ne this]
      exact h i (List.mem_cons_of_mem _ hi)
    rw [List.foldl_cons, List.length_cons]
    omega
/-- the board as a player sees it -/
def toP (b : Brd) (h : GB b) (p : Bool) : M47.Bd := ⟨b.length, fun s => (spot b s).1 == p, fun s => (spot b s).2, fun s hs => h.ne _ (by unfold spot; simp [List.getD, hs]), fun s hs => h.lt _ (by unfold spot; simp [List.getD, hs])⟩
theorem toP_true (b : Brd) (h : GB b) : toP b h true = toB b h := by unfold toP toB; simp
def pD (p : Bool) : D := .int (if p then 0 else 1)
theorem eqv_pD (x p : Bool) : D.eqv (.int (if x then 0 else 1)) (.int (if p then 0 else 1)) = (x == p) := by cases x <;> cases p <;> rfl
/-- drawing_steps for a player: the fixpoint for tolls of one -/
theorem drawing_steps_ok (Φ : Ctx) {b : Brd} (hb : GB b) (p : Bool) {g : List Nat} {Q : D → Prop} (q : ∀ v : List (Option Nat), v.length = b.length → M47.Fix (toP b hb p) M47.one (gl g) (vec v) → Q (vD v)) :
    wF Φ f_drawing_steps [bD b, pD p, .tup (nD g)] Q := by
  refine ⟨rfl, by decide, ?_⟩
  ((repeat ((conv => whnf); refine And.intro (by first | exact trivial | exact rfl | omega | assumption | decide | exact pls_nD _ _) ?_)); (conv => whnf))
  have hs := hb.small
  have hl : (b.map spD).length = b.length := List.length_map ..
  refine And.intro (by rw [hl]; unfold LB; omega) (And.intro (by omega) ?_)
  rw [hl, rangeD_nat]
  refine lcW_onMap (fun (n : Nat) => D.int (n : Int)) (fun s => oD (if gl g s then some 0 else none)) (List.range b.length) (fun s hs K hK => ?_) ?_
  · ((repeat ((conv => whnf); refine And.intro (by first | exact trivial | exact rfl | omega | assumption | decide | exact pls_nD _ _) ?_)); (conv => whnf))
    rw [any_nD]
    (try simp only [List.set_cons_succ, List.set_cons_zero, freezeI, wipeE, backE, freeze, freezes, behind, List.getElem?_cons_succ, List.getElem?_cons_zero, Slot.val, Option.getD_some, ite_self])
    refine bif_by (fun h => ?_) (fun h => ?_)
    · ((repeat ((conv => whnf); refine And.intro (by first | exact trivial | exact rfl | omega | assumption | decide | exact pls_nD _ _) ?_)); (conv => whnf))
      have h : gl g s = true := h
      rw [h] at hK
      exact hK
    · ((repeat ((conv => whnf); refine And.intro (by first | exact trivial | exact rfl | omega | assumption | decide | exact pls_nD _ _) ?_)); (conv => whnf))
      have h : gl g s = false := h
      rw [h] at hK
      exact hK
  have e0 : (List.range b.length).map (fun s => oD (if gl g s then some 0 else none)) = (startV b.length g).map oD := by
    unfold startV
    rw [List.map_map]
    rfl
  rw [e0]
  (try simp only [List.set_cons_succ, List.set_cons_zero, freezeI, wipeE, backE, freeze, freezes, behind, List.getElem?_cons_succ, List.getElem?_cons_zero, Slot.val, Option.getD_some, ite_self])
  ((repeat ((conv => whnf); refine And.intro (by first | exact trivial | exact rfl | omega | assumption | decide | exact pls_nD _ _) ?_)); (conv => whnf))
  refine ⟨M47.nones (startV b.length g) + 2, whW_inv (I := fun n ρ => ∃ (v : List (Option Nat)) (k : Nat) (gr : Bool) (s6 s7 s8 : Slot), n = M47.nones v + (if gr then 1 else 0) ∧ v.length = b.length ∧ M47.Rnd (toP b hb p) (gl g) (vec v) k ∧ (gr = false → M47.Fix (toP b hb p) M47.one (gl g) (vec v)) ∧
    ρ = [.sh (bD b), .sh (.int (if p then 0 else 1)), .sh (.tup (nD g)), .ol (v.map oD), .sh (.int (k : Int)), .sh (.bl gr), s6, s7, s8, .un]) ?_ (M47.nones (startV b.length g) + 1) _ ⟨startV b.length g, 0, true, .un, .un, .un, rfl, startV_len, ?_, (fun h => nomatch h), rfl⟩ _ (Nat.lt_succ_self _)⟩
  · rintro n ρ K ⟨v, k, gr, s6, s7, s8, hn, hv, hR, hfix, rfl⟩ hK
    ((repeat ((conv => whnf); refine And.intro (by first | exact trivial | exact rfl | omega | assumption | decide | exact pls_nD _ _) ?_)); (conv => whnf))
    refine bif_by (fun h => ?_) (fun h => ?_)
    · subst h
      ((repeat ((conv => whnf); refine And.intro (by first | exact trivial | exact rfl | omega | assumption | decide | exact pls_nD _ _) ?_)); (conv => whnf))
      refine And.intro (by rw [hl]; unfold LB; omega) (And.intro (by omega) ?_)
      rw [hl, rangeD_nat]
      refine foW_inv (I := fun i ρ => i ≤ b.length ∧ ∃ s7 s8, ρ = [.sh (bD b), .sh (.int (if p then 0 else 1)), .sh (.tup (nD g)), .ol (v.map oD), .sh (.int ((k : Int) + 1)), .sh (.bl true), .ol (nD ((List.range i).filter (isFresh b p v))), s7, s8, .un]) ⟨Nat.zero_le _, _, _, rfl⟩ ?_ ?_
      · rintro i d ρ K hd ⟨hi, s7, s8, rfl⟩ hK2
        have hlt : i < b.length := by
          have := (List.getElem?_eq_some_iff.mp hd).1
          simpa [nD] using this
        have ed : d = .int (i : Int) := by
          have : (nD (List.range b.length))[i]? = some (.int (i : Int)) := nD_get (by simp [hlt])
          rw [this] at hd
          exact (Option.some.inj hd).symm
        subst ed
        have hsp := spot_get hlt
        have wlt : ∀ w ∈ (spot b i).2, w < b.length := (toP b hb p).lt i hlt
        have efil : (List.range (i + 1)).filter (isFresh b p v) = (List.range i).filter (isFresh b p v) ++ (if isFresh b p v i then [i] else []) := by
          rw [List.range_succ, List.filter_append]
          cases ef : isFresh b p v i <;> simp [ef]
        have flen : ((List.range i).filter (isFresh b p v)).length ≤ i := by
          have := List.length_filter_le (isFresh b p v) (List.range i)
          simpa using this
        ((repeat ((conv => whnf); refine And.intro (by first | exact trivial | exact rfl | omega | assumption | decide | exact pls_nD _ _) ?_)); (conv => whnf))
        refine idxL_nat (d := oD (vec v i)) (by simp [vec, List.getD, show i < v.length by omega]) ?_
        cases e : vec v i with
        | some j =>
          ((repeat ((conv => whnf); refine And.intro (by first | exact trivial | exact rfl | omega | assumption | decide | exact pls_nD _ _) ?_)); (conv => whnf))
          refine hK2 _ ⟨by omega, .sh (.int (i : Int)), s8, ?_⟩
          rw [efil]
          have : isFresh b p v i = false := by simp [isFresh, e]
          rw [this]
          simp
        | none =>
          ((repeat ((conv => whnf); refine And.intro (by first | exact trivial | exact rfl | omega | assumption | decide | exact pls_nD _ _) ?_)); (conv => whnf))
          refine idxL_nat (d := spD (spot b i)) (by simp [hsp]) ?_
          ((repeat ((conv => whnf); refine And.intro (by first | exact trivial | exact rfl | omega | assumption | decide | exact pls_nD _ _) ?_)); (conv => whnf))
          refine lcW_onMap (fun (n : Nat) => D.int (n : Int)) (fun w => .bl (vec v w).isSome) (spot b i).2 (fun w hw K hK => ?_) ?_
          · ((repeat ((conv => whnf); refine And.intro (by first | exact trivial | exact rfl | omega | assumption | decide | exact pls_nD _ _) ?_)); (conv => whnf))
            refine idxL_nat (d := oD (vec v w)) (by simp [vec, List.getD, show w < v.length by have := wlt w hw; omega]) ?_
            cases e2 : vec v w with
            | none => rw [e2] at hK; exact hK
            | some j => rw [e2] at hK; exact hK
          (try simp only [List.set_cons_succ, List.set_cons_zero, freezeI, wipeE, backE, freeze, freezes, behind, List.getElem?_cons_succ, List.getElem?_cons_zero, Slot.val, Option.getD_some, ite_self])
          have ek : (spot b i).2.map (fun w => D.bl (vec v w).isSome) = (((spot b i).2.map (vec v)).map fun o => o.isSome).map D.bl := by rw [List.map_map, List.map_map]; rfl
          rw [ek]
          ((repeat ((conv => whnf); refine And.intro (by first | exact trivial | exact rfl | omega | assumption | decide | exact pls_nD _ _) ?_)); (conv => whnf))
          refine idxL_nat (d := spD (spot b i)) (by simp [hsp]) ?_
          ((repeat ((conv => whnf); refine And.intro (by first | exact trivial | exact rfl | omega | assumption | decide | exact pls_nD _ _) ?_)); (conv => whnf))
          have stepB : ∀ (c : Bool), c = (M47.best ((spot b i).1 == p) ((spot b i).2.map (vec v))).isSome → ∀ s8, (bif c then K [.sh (bD b), .sh (.int (if p then 0 else 1)), .sh (.tup (nD g)), .ol (v.map oD), .sh (.int ((k : Int) + 1)), .sh (.bl true), .ol (nD ((List.range i).filter (isFresh b p v)) ++ [.int (i : Int)]), .sh (.int (i : Int)), s8, .un] else K [.sh (bD b), .sh (.int (if p then 0 else 1)), .sh (.tup (nD g)), .ol (v.map oD), .sh (.int ((k : Int) + 1)), .sh (.bl true), .ol (nD ((List.range i).filter (isFresh b p v))), .sh (.int (i : Int)), s8, .un]) := fun c hc s8 => by
            have hc2 : isFresh b p v i = c := by simp [isFresh, e, hc]
            refine bif_by (fun h => ?_) (fun h => ?_)
            · refine hK2 _ ⟨by omega, .sh (.int (i : Int)), s8, ?_⟩
              rw [efil, hc2, h]
              simp [nD]
            · refine hK2 _ ⟨by omega, .sh (.int (i : Int)), s8, ?_⟩
              rw [efil, hc2, h]
              simp
          have flt : (nD ((List.range i).filter (isFresh b p v))).length < LB := by
            have e : (nD ((List.range i).filter (isFresh b p v))).length = ((List.range i).filter (isFresh b p v)).length := List.length_map ..
            rw [e]
            unfold LB
            omega
          refine bif_by (fun h => ?_) (fun h => ?_)
          · have h := (eqv_pD _ _).symm.trans h
            ((repeat ((conv => whnf); refine And.intro (by first | exact trivial | exact rfl | omega | assumption | decide | exact pls_nD _ _) ?_)); (conv => whnf))
            refine blsL_map ?_
            rw [any_known]
            refine bif_by (fun h2 => ?_) (fun h2 => ?_)
            · ((repeat ((conv => whnf); refine And.intro (by first | exact trivial | exact rfl | omega | assumption | decide | exact pls_nD _ _) ?_)); (conv => whnf))
              exact stepB true (by rw [h]; exact h2.symm) _
            · exact stepB false (by rw [h]; exact h2.symm) _
          · have h := (eqv_pD _ _).symm.trans h
            ((repeat ((conv => whnf); refine And.intro (by first | exact trivial | exact rfl | omega | assumption | decide | exact pls_nD _ _) ?_)); (conv => whnf))
            refine blsL_map ?_
            rw [all_known]
            refine bif_by (fun h2 => ?_) (fun h2 => ?_)
            · ((repeat ((conv => whnf); refine And.intro (by first | exact trivial | exact rfl | omega | assumption | decide | exact pls_nD _ _) ?_)); (conv => whnf))
              exact stepB true (by rw [h]; exact h2.symm) _
            · exact stepB false (by rw [h]; exact h2.symm) _
      · rintro ρ ⟨_, s7, s8, rfl⟩
        have efr : (nD (List.range b.length)).length = b.length := by simp [nD]
        rw [efr]
        generalize hfr : (List.range b.length).filter (isFresh b p v) = fr
        have hin : ∀ s ∈ fr, s < b.length := fun s h => by
          rw [← hfr] at h
          exact List.mem_range.mp (List.mem_filter.mp h).1
        ((repeat ((conv => whnf); refine And.intro (by first | exact trivial | exact rfl | omega | assumption | decide | exact pls_nD _ _) ?_)); (conv => whnf))
        refine foW_inv (I := fun j ρ => j ≤ fr.length ∧ ∃ s7 s8, ρ = [.sh (bD b), .sh (.int (if p then 0 else 1)), .sh (.tup (nD g)), .ol (((fr.take j).foldl (fun v s => v.set s (some (k + 1))) v).map oD), .sh (.int ((k : Int) + 1)), .sh (.bl true), .sh (.lst (nD fr)), s7, s8, .un]) ⟨Nat.zero_le _, s7, s8, rfl⟩ ?_ ?_
        · rintro j d ρ K2 hd ⟨hj, s7, s8, rfl⟩ hK2
          have hjl : j < fr.length := by
            have := (List.getElem?_eq_some_iff.mp hd).1
            simpa [nD] using this
          have ed : d = .int (fr[j] : Int) := by
            have : (nD fr)[j]? = some (.int (fr[j] : Int)) := nD_get (by simp [hjl])
            rw [this] at hd
            exact (Option.some.inj hd).symm
          subst ed
          have flen : ∀ (l : List Nat) (v : List (Option Nat)), (l.foldl (fun v s => v.set s (some (k + 1))) v).length = v.length := by
            intro l
            induction l with
            | nil => intro v; rfl
            | cons s l ih => intro v; rw [List.foldl_cons, ih, List.length_set]
          have hfl := hin fr[j] (List.getElem_mem hjl)
          ((repeat ((conv => whnf); refine And.intro (by first | exact trivial | exact rfl | omega | assumption | decide | exact pls_nD _ _) ?_)); (conv => whnf))
          refine setL_nat (by rw [List.length_map, flen]; omega) ?_
          refine hK2 _ ⟨(show j + 1 ≤ fr.length by omega), .sh (.int (fr[j] : Int)), s8, ?_⟩
          have et : fr.take (j + 1) = fr.take j ++ [fr[j]] := by rw [List.take_succ]; simp [hjl]
          rw [et, List.foldl_append]
          simp only [List.foldl_cons, List.foldl_nil, List.map_set]
          rfl
        · rintro ρ ⟨_, s7, s8, rfl⟩
          have efr2 : (nD fr).length = fr.length := by simp [nD]
          have etk : fr.take (nD fr).length = fr := List.take_of_length_le (by omega)
          rw [etk]
          generalize hv' : fr.foldl (fun v s => v.set s (some (k + 1))) v = v'
          have get' : ∀ s, s < b.length → vec v' s = if s ∈ fr then some (k + 1) else vec v s := fun s hs2 => by
            have := set_fold (k + 1) fr v s
            rw [hv'] at this
            simp only [vec, List.getD, this]
            by_cases c : s ∈ fr
            · simp [c, show s < v.length by omega]
            · simp [c]
          have lenv' : v'.length = b.length := by
            have flen : ∀ (l : List Nat) (v : List (Option Nat)), (l.foldl (fun v s => v.set s (some (k + 1))) v).length = v.length := by
              intro l
              induction l with
              | nil => intro v; rfl
              | cons s l ih => intro v; rw [List.foldl_cons, ih, List.length_set]
            rw [← hv', flen, hv]
          have memfr : ∀ s, s < b.length → (s ∈ fr ↔ isFresh b p v s = true) := fun s hs2 => by
            rw [← hfr, List.mem_filter]
            simp [hs2]
          have rnd : M47.Rnd (toP b hb p) (gl g) (vec v') (k + 1) := hR.next fun s hs2 => by
            have hs2 : s < b.length := hs2
            rw [get' s hs2]
            cases e : vec v s with
            | some j =>
              have : ¬ s ∈ fr := fun h => by
                have := (memfr s hs2).mp h
                simp [isFresh, e] at this
              rw [if_neg this]
            | none =>
              by_cases c : s ∈ fr
              · have := (memfr s hs2).mp c
                have h2 : (M47.best ((spot b s).1 == p) ((spot b s).2.map (vec v))).isSome = true := by simpa [isFresh, e] using this
                rw [if_pos c]
                show some (k + 1) = if (M47.best ((spot b s).1 == p) ((spot b s).2.map (vec v))).isSome = true then some (k + 1) else none
                rw [if_pos h2]
              · have h2 : ¬ (M47.best ((spot b s).1 == p) ((spot b s).2.map (vec v))).isSome = true := fun h => c ((memfr s hs2).mpr (by simp [isFresh, e, h]))
                rw [if_neg c]
                show none = if (M47.best ((spot b s).1 == p) ((spot b s).2.map (vec v))).isSome = true then some (k + 1) else none
                rw [if_neg h2]
          have egr : ((D.int 0).lt (.int ((nD fr).length : Int))) = decide (0 < fr.length) := by
            show decide ((0 : Int) < _) = _
            rw [efr2, Bool.eq_iff_iff]
            simp
          ((repeat ((conv => whnf); refine And.intro (by first | exact trivial | exact rfl | omega | assumption | decide | exact pls_nD _ _) ?_)); (conv => whnf))
          refine hK (M47.nones v' + (if decide (0 < fr.length) then 1 else 0)) _ ?_ ⟨v', k + 1, decide (0 < fr.length), .sh (.lst (nD fr)), s7, s8, rfl, lenv', rnd, fun h => ?_, ?_⟩
          · have nd : fr.Nodup := by rw [← hfr]; exact List.Pairwise.filter _ List.nodup_range
            have hno : ∀ s ∈ fr, v[s]? = some none := fun s hs3 => by
              have h1 := hin s hs3
              have h2 := (memfr s h1).mp hs3
              have h3 : vec v s = none := by
                cases e : vec v s with
                | none => rfl
                | some j => simp [isFresh, e] at h2
              simp only [vec, List.getD] at h3
              rw [List.getElem?_eq_getElem (by omega)] at h3 ⊢
              simpa using h3
            have hc := nones_fold (k + 1) fr v nd hno
            rw [hv'] at hc
            rw [hn]
            by_cases c : 0 < fr.length
            · simp only [c, decide_true, if_true]; omega
            · simp only [c, decide_false, if_true]; simp; omega
          · have hf : fr = [] := by
              cases fr with
              | nil => rfl
              | cons a l => simp at h
            have hvv : v' = v := by rw [← hv', hf]; rfl
            rw [hvv] at rnd ⊢
            refine rnd.fix fun s hs2 e => ?_
            have hs2 : s < b.length := hs2
            cases q2 : M47.best ((toP b hb p).own s) (((toP b hb p).ways s).map (vec v)) with
            | none => rfl
            | some c =>
              have : s ∈ fr := (memfr s hs2).mpr (by
                have q2 : M47.best ((spot b s).1 == p) ((spot b s).2.map (vec v)) = some c := q2
                simp [isFresh, e, q2])
              rw [hf] at this
              cases this
          · show _ = _
            simp only [Slot.val, List.set_cons_succ, List.set_cons_zero, egr]
            rfl
    · subst h
      ((repeat ((conv => whnf); refine And.intro (by first | exact trivial | exact rfl | omega | assumption | decide | exact pls_nD _ _) ?_)); (conv => whnf))
      exact q v hv (hfix rfl)
  · refine M47.Rnd.start fun s hs => ?_
    have hs : s < b.length := hs
    simp [vec, startV, List.getD, hs]
end Wg
set_option Elab.async false
set_option linter.all false
set_option maxRecDepth 100000
set_option maxHeartbeats 1000000
/-! Wg: stores, the program's side. Plain Lean. -/
namespace Wg
def iD (l : List Int) : List D := l.map D.int
def gi (g : List Int) : Nat → Int := fun s => g.getD s 0
theorem iD_get {l : List Int} {i : Nat} (h : i < l.length) : (iD l)[i]? = some (.int (gi l i)) := by simp [iD, gi, List.getD, h]
/-- what a spot needs -/
def needK (g : Int) (k : Nat) : Nat := (max (max 0 (-g)) ((k : Int) - g)).toNat
def needO (b : Brd) (g : List Int) (v : List (Option Nat)) (s : Nat) : Option Nat := (M47.best (spot b s).1 ((spot b s).2.map (vec v))).map (needK (gi g s))
theorem need_of_ok (Φ : Ctx) {b : Brd} (hb : GB b) {g : List Int} {v : List (Option Nat)} {i : Nat} (hg : g.length = b.length) (hv : v.length = b.length) (hlt : i < b.length) {Q : D → Prop} (q : Q (oD (needO b g v i))) :
    wF Φ f_need_of [bD b, .tup (iD g), .lst (v.map oD), .int (i : Int)] Q := by
  (refine wF_at [.sh _, .sh _, .sh _, .sh _, .un, .un, .un, .un, .un, .un] rfl (by decide) rfl ?_)
  ((repeat ((conv => whnf); refine And.intro (by first | exact trivial | exact rfl | omega | assumption | decide | exact pls_nD _ _) ?_)); (conv => whnf))
  have hsp := spot_get hlt
  have wlt : ∀ w ∈ (spot b i).2, w < b.length := (toB b hb).lt i hlt
  refine idxL_nat (d := spD (spot b i)) (by simp [hsp]) ?_
  ((repeat ((conv => whnf); refine And.intro (by first | exact trivial | exact rfl | omega | assumption | decide | exact pls_nD _ _) ?_)); (conv => whnf))
  refine lcW_onMap (fun (n : Nat) => D.int (n : Int)) (fun w => oD (vec v w)) (spot b i).2 (fun w hw K hK => ?_) ?_
  · ((repeat ((conv => whnf); refine And.intro (by first | exact trivial | exact rfl | omega | assumption | decide | exact pls_nD _ _) ?_)); (conv => whnf))
    refine idxL_nat (d := oD (vec v w)) ?_ ?_
    · have := wlt w hw
      simp [vec, List.getD, show w < v.length by omega]
    · exact hK
  (try simp only [List.set_cons_succ, List.set_cons_zero, freezeI, wipeE, backE, freeze, freezes, behind, List.getElem?_cons_succ, List.getElem?_cons_zero, Slot.val, Option.getD_some, ite_self])
  ((repeat ((conv => whnf); refine And.intro (by first | exact trivial | exact rfl | omega | assumption | decide | exact pls_nD _ _) ?_)); (conv => whnf))
  have enear : (spot b i).2.map (fun w => oD (vec v w)) = ((spot b i).2.map (vec v)).map oD := by rw [List.map_map]; rfl
  rw [enear]
  refine lcW_on oD (fun o => o.map fun (k : Nat) => D.int (k : Int)) ((spot b i).2.map (vec v)) (fun o ho K hK => ?_) ?_
  · cases o with
    | none =>
      ((repeat ((conv => whnf); refine And.intro (by first | exact trivial | exact rfl | omega | assumption | decide | exact pls_nD _ _) ?_)); (conv => whnf))
      exact hK
    | some k =>
      ((repeat ((conv => whnf); refine And.intro (by first | exact trivial | exact rfl | omega | assumption | decide | exact pls_nD _ _) ?_)); (conv => whnf))
      exact hK
  have eknown : ((spot b i).2.map (vec v)).filterMap (fun o => o.map fun (k : Nat) => D.int (k : Int)) = nD (((spot b i).2.map (vec v)).filterMap id) := by
    unfold nD
    rw [List.map_filterMap]
    rfl
  rw [eknown]
  (try simp only [List.set_cons_succ, List.set_cons_zero, freezeI, wipeE, backE, freeze, freezes, behind, List.getElem?_cons_succ, List.getElem?_cons_zero, Slot.val, Option.getD_some, ite_self])
  have lnear : (((spot b i).2.map (vec v)).map oD).length = (spot b i).2.length := by simp
  generalize hkn : ((spot b i).2.map (vec v)).filterMap id = kn
  have hle : kn.length ≤ ((spot b i).2.map (vec v)).length := by rw [← hkn]; exact List.length_filterMap_le _ _
  have none_case : kn.length = 0 ∨ ((spot b i).1 = false ∧ kn.length < (spot b i).2.length) → needO b g v i = none := fun h => by
    unfold needO
    rcases h with h | ⟨h1, h2⟩
    · have e0 : kn = [] := List.eq_nil_of_length_eq_zero h
      subst e0
      cases z : (spot b i).1 with
      | true =>
        show (M47.inf _).map _ = none
        rw [M47.inf_none hkn]; rfl
      | false =>
        show (M47.sup _).map _ = none
        rw [M47.sup_unknown (by rw [hkn]; simp; exact List.length_pos_iff.mpr ((toB b hb).ne i hlt))]; rfl
    · rw [h1]
      show (M47.sup _).map _ = none
      rw [M47.sup_unknown (by rw [hkn]; simpa using h2)]; rfl
  have full : kn.length ≠ 0 → (¬ ((spot b i).1 = false ∧ kn.length < (spot b i).2.length)) → ∃ k ks, kn = k :: ks ∧ M47.best (spot b i).1 ((spot b i).2.map (vec v)) = some (if (spot b i).1 then ks.foldl min k else ks.foldl max k) := fun h0 h1 => by
    cases e : kn with
    | nil => rw [e] at h0; exact (h0 rfl).elim
    | cons k ks =>
      refine ⟨k, ks, rfl, ?_⟩
      cases z : (spot b i).1 with
      | true =>
        show M47.inf _ = _
        rw [M47.inf_known, hkn, e]
        show M47.inf (some k :: ks.map some) = _
        rw [M47.foldl_min]; rfl
      | false =>
        have h2 : ¬ kn.length < (spot b i).2.length := fun h => h1 ⟨z, h⟩
        show M47.sup _ = _
        rw [M47.all_known (l := (spot b i).2.map (vec v)) (by rw [hkn]; simp at hle ⊢; omega), hkn, e]
        show M47.sup (some k :: ks.map some) = _
        rw [M47.foldl_max]; rfl
  have fin : ∀ (h0 : kn.length ≠ 0) (h1 : ¬ ((spot b i).1 = false ∧ kn.length < (spot b i).2.length)) (x : Int), (∀ k ks, kn = k :: ks → x = ((if (spot b i).1 then ks.foldl min k else ks.foldl max k : Nat) : Int)) → Q (.int (if (if 0 < -(gi g i) then -(gi g i) else 0) < x - gi g i then x - gi g i else (if 0 < -(gi g i) then -(gi g i) else 0))) := fun h0 h1 x hx => by
    obtain ⟨k, ks, ek, eb⟩ := full h0 h1
    have e : needO b g v i = some (needK (gi g i) (if (spot b i).1 then ks.foldl min k else ks.foldl max k)) := by unfold needO; rw [eb]; rfl
    rw [e] at q
    rw [hx k ks ek]
    generalize (if (spot b i).1 then ks.foldl min k else ks.foldl max k) = y at q
    have e2 : (if (if 0 < -(gi g i) then -(gi g i) else 0) < (y : Int) - gi g i then (y : Int) - gi g i else (if 0 < -(gi g i) then -(gi g i) else 0)) = ((needK (gi g i) y : Nat) : Int) := by
      unfold needK
      split <;> split at * <;> omega
    rw [e2]
    exact q
  ((repeat ((conv => whnf); refine And.intro (by first | exact trivial | exact rfl | omega | assumption | decide | exact pls_nD _ _) ?_)); (conv => whnf))
  refine bif_by (fun h => ?_) (fun h => ?_)
  · ((repeat ((conv => whnf); refine And.intro (by first | exact trivial | exact rfl | omega | assumption | decide | exact pls_nD _ _) ?_)); (conv => whnf))
    have h0 : kn.length = 0 := by rw [← nD_len]; exact eqv_natT h
    rw [none_case (.inl h0)] at q
    exact q
  · have h0 : kn.length ≠ 0 := by
      rw [← nD_len]
      exact eqv_natF h
    ((repeat ((conv => whnf); refine And.intro (by first | exact trivial | exact rfl | omega | assumption | decide | exact pls_nD _ _) ?_)); (conv => whnf))
    refine bif_by (fun h2 => ?_) (fun h2 => ?_)
    · have ho : (spot b i).1 = false := by
        cases z : (spot b i).1 with
        | true => rw [z] at h2; cases h2
        | false => rfl
      ((repeat ((conv => whnf); refine And.intro (by first | exact trivial | exact rfl | omega | assumption | decide | exact pls_nD _ _) ?_)); (conv => whnf))
      refine bif_by (fun h3 => ?_) (fun h3 => ?_)
      · ((repeat ((conv => whnf); refine And.intro (by first | exact trivial | exact rfl | omega | assumption | decide | exact pls_nD _ _) ?_)); (conv => whnf))
        have h3 : kn.length < (spot b i).2.length := by rw [← nD_len, ← lnear]; exact lt_natT h3
        rw [none_case (.inr ⟨ho, h3⟩)] at q
        exact q
      · have h3 : ¬ kn.length < (spot b i).2.length := by rw [← nD_len, ← lnear]; exact lt_natF h3
        obtain ⟨k, ks, ek, _⟩ := full h0 (fun h => h3 h.2)
        ((repeat ((conv => whnf); refine And.intro (by first | exact trivial | exact rfl | omega | assumption | decide | exact pls_nD _ _) ?_)); (conv => whnf))
        refine idxL_nat (iD_get (by omega)) ?_
        ((repeat ((conv => whnf); refine And.intro (by first | exact trivial | exact rfl | omega | assumption | decide | exact pls_nD _ _) ?_)); (conv => whnf))
        refine bif_by (fun h9 => ?_) (fun h9 => ?_)
        · have ho : (spot b i).1 = true := by
            cases z : (spot b i).1 with
            | true => rfl
            | false => rw [z] at h9; cases h9
          ((repeat ((conv => whnf); refine And.intro (by first | exact trivial | exact rfl | omega | assumption | decide | exact pls_nD _ _) ?_)); (conv => whnf))
          refine min_okE ek ?_
          ((repeat ((conv => whnf); refine And.intro (by first | exact trivial | exact rfl | omega | assumption | decide | exact pls_nD _ _) ?_)); (conv => whnf))
          refine idxL_nat (iD_get (by omega)) ?_
          ((repeat ((conv => whnf); refine And.intro (by first | exact trivial | exact rfl | omega | assumption | decide | exact pls_nD _ _) ?_)); (conv => whnf))
          refine fin h0 (fun h => h3 h.2) _ fun k' ks' e' => ?_
          rw [ek] at e'
          cases e'
          rw [ho]; rfl
        · have ho : (spot b i).1 = false := by
            cases z : (spot b i).1 with
            | true => rw [z] at h9; cases h9
            | false => rfl
          ((repeat ((conv => whnf); refine And.intro (by first | exact trivial | exact rfl | omega | assumption | decide | exact pls_nD _ _) ?_)); (conv => whnf))
          refine max_okE ek ?_
          ((repeat ((conv => whnf); refine And.intro (by first | exact trivial | exact rfl | omega | assumption | decide | exact pls_nD _ _) ?_)); (conv => whnf))
          refine idxL_nat (iD_get (by omega)) ?_
          ((repeat ((conv => whnf); refine And.intro (by first | exact trivial | exact rfl | omega | assumption | decide | exact pls_nD _ _) ?_)); (conv => whnf))
          refine fin h0 (fun h => h3 h.2) _ fun k' ks' e' => ?_
          rw [ek] at e'
          cases e'
          rw [ho]; rfl
    · have ho : (spot b i).1 = true := by
        cases z : (spot b i).1 with
        | true => rfl
        | false => rw [z] at h2; cases h2
      have hoT := ho
      obtain ⟨k, ks, ek, _⟩ := full h0 (fun h => by rw [hoT] at h; cases h.1)
      ((repeat ((conv => whnf); refine And.intro (by first | exact trivial | exact rfl | omega | assumption | decide | exact pls_nD _ _) ?_)); (conv => whnf))
      refine idxL_nat (iD_get (by omega)) ?_
      ((repeat ((conv => whnf); refine And.intro (by first | exact trivial | exact rfl | omega | assumption | decide | exact pls_nD _ _) ?_)); (conv => whnf))
      refine bif_by (fun h9 => ?_) (fun h9 => ?_)
      · have ho : (spot b i).1 = true := by
          cases z : (spot b i).1 with
          | true => rfl
          | false => rw [z] at h9; cases h9
        ((repeat ((conv => whnf); refine And.intro (by first | exact trivial | exact rfl | omega | assumption | decide | exact pls_nD _ _) ?_)); (conv => whnf))
        refine min_okE ek ?_
        ((repeat ((conv => whnf); refine And.intro (by first | exact trivial | exact rfl | omega | assumption | decide | exact pls_nD _ _) ?_)); (conv => whnf))
        refine idxL_nat (iD_get (by omega)) ?_
        ((repeat ((conv => whnf); refine And.intro (by first | exact trivial | exact rfl | omega | assumption | decide | exact pls_nD _ _) ?_)); (conv => whnf))
        refine fin h0 (fun h => by rw [hoT] at h; cases h.1) _ fun k' ks' e' => ?_
        rw [ek] at e'
        cases e'
        rw [ho]; rfl
      · have ho : (spot b i).1 = false := by
          cases z : (spot b i).1 with
          | true => rw [z] at h9; cases h9
          | false => rfl
        ((repeat ((conv => whnf); refine And.intro (by first | exact trivial | exact rfl | omega | assumption | decide | exact pls_nD _ _) ?_)); (conv => whnf))
        refine max_okE ek ?_
        ((repeat ((conv => whnf); refine And.intro (by first | exact trivial | exact rfl | omega | assumption | decide | exact pls_nD _ _) ?_)); (conv => whnf))
        refine idxL_nat (iD_get (by omega)) ?_
        ((repeat ((conv => whnf); refine And.intro (by first | exact trivial | exact rfl | omega | assumption | decide | exact pls_nD _ _) ?_)); (conv => whnf))
        refine fin h0 (fun h => by rw [hoT] at h; cases h.1) _ fun k' ks' e' => ?_
        rw [ek] at e'
        cases e'
        rw [ho]; rfl
/-- .. where those above a top are none -/
def capO (top : Int) (o : Option Nat) : Option Nat := match o with
  | none => none
  | some k => if (k : Int) > top then none else some k
def GO (b : Brd) (g : List Int) (top : Int) (v : List (Option Nat)) (s : Nat) : Option Nat := capO top (needO b g v s)
def muT (T : Nat) : List (Option Nat) → Nat
  | [] => 0
  | none :: l => muT T l
  | some k :: l => (T + 1 - k) + muT T l
theorem muT_set {T : Nat} : ∀ {v : List (Option Nat)} {i k : Nat} {o : Option Nat}, v[i]? = some (some k) → k ≤ T → (∀ k', o = some k' → k < k') → muT T (v.set i o) < muT T v
  | [], _, _, _, h, _, _ => by simp at h
  | a :: v, 0, k, o, h, hk, ho => by
    have : a = some k := by simpa using h
    subst this
    cases o with
    | none =>
      show muT T v < (T + 1 - k) + muT T v
      omega
    | some k' =>
      have := ho k' rfl
      show (T + 1 - k') + muT T v < (T + 1 - k) + muT T v
      omega
  | a :: v, i + 1, k, o, h, hk, ho => by
    have ih := muT_set (v := v) (i := i) (by simpa using h) hk ho
    cases a with
    | none => exact ih
    | some a =>
      show (T + 1 - a) + muT T (v.set i o) < (T + 1 - a) + muT T v
      omega
theorem vec_set {v : List (Option Nat)} {i : Nat} (hi : i < v.length) (o : Option Nat) (s : Nat) : vec (v.set i o) s = if s = i then o else vec v s := by
  simp only [vec, List.getD, List.getElem?_set]
  by_cases c : i = s
  · subst c; simp [hi]
  · have c2 : ¬ s = i := fun e => c e.symm
    simp [c, c2]
theorem capO_mono {top : Int} {a b : Option Nat} (h : M47.ole a b) : M47.ole (capO top a) (capO top b) := by
  cases b with
  | none => exact M47.ole_none _
  | some b =>
    obtain ⟨a, rfl, h⟩ := M47.ole_some h
    show M47.ole (if (a : Int) > top then none else some a) (if (b : Int) > top then none else some b)
    split <;> split
    · trivial
    · omega
    · trivial
    · exact h
theorem needK_mono {g : Int} {a b : Nat} (h : a ≤ b) : needK g a ≤ needK g b := by unfold needK; omega
theorem map_need {g : Int} {a b : Option Nat} (h : M47.ole a b) : M47.ole (a.map (needK g)) (b.map (needK g)) := by
  cases b with
  | none => exact M47.ole_none _
  | some b =>
    obtain ⟨a, rfl, h⟩ := M47.ole_some h
    exact needK_mono h
theorem GO_mono {b : Brd} (hb : GB b) {g : List Int} {top : Int} {v w : List (Option Nat)} (h : ∀ s, s < b.length → M47.ole (vec v s) (vec w s)) : ∀ s, s < b.length → M47.ole (GO b g top v s) (GO b g top w s) := fun s hs =>
  capO_mono (map_need (M47.best_mono fun w hw => h w ((toB b hb).lt s hs w hw)))
/-- least among those that are at least their step -/
structure Lf (b : Brd) (g : List Int) (top : Int) (v : List (Option Nat)) : Prop where
  len : v.length = b.length
  fix : ∀ s, s < b.length → vec v s = GO b g top v s
  least : ∀ y : List (Option Nat), (∀ s, s < b.length → M47.ole (GO b g top y s) (vec y s)) → ∀ s, s < b.length → M47.ole (vec v s) (vec y s)
/-- on the way -/
structure Up (b : Brd) (g : List Int) (top : Int) (v : List (Option Nat)) : Prop where
  len : v.length = b.length
  tp : ∀ s k, s < b.length → vec v s = some k → (k : Int) ≤ top
  up : ∀ s, s < b.length → M47.ole (vec v s) (GO b g top v s)
  least : ∀ y : List (Option Nat), (∀ s, s < b.length → M47.ole (GO b g top y s) (vec y s)) → ∀ s, s < b.length → M47.ole (vec v s) (vec y s)
theorem Up.start {b : Brd} {g : List Int} {top : Int} (ht : 0 ≤ top) : Up b g top (List.replicate b.length (some 0)) := by
  have e : ∀ s, s < b.length → vec (List.replicate b.length (some 0)) s = some 0 := fun s hs => by simp [vec, List.getD, hs]
  have z : ∀ o : Option Nat, M47.ole (some 0) o := fun o => by
    cases o with
    | none => trivial
    | some k => exact Nat.zero_le k
  refine ⟨by simp, fun s k hs h => ?_, fun s hs => ?_, fun y _ s hs => ?_⟩
  · rw [e s hs] at h
    cases h
    exact ht
  · rw [e s hs]; exact z _
  · rw [e s hs]; exact z _
theorem Up.set {b : Brd} (hb : GB b) {g : List Int} {top : Int} {v : List (Option Nat)} (h : Up b g top v) {i : Nat} (hi : i < b.length) : Up b g top (v.set i (GO b g top v i)) := by
  have hiv : i < v.length := by rw [h.len]; exact hi
  have e := vec_set hiv (GO b g top v i)
  have le : ∀ s, s < b.length → M47.ole (vec v s) (vec (v.set i (GO b g top v i)) s) := fun s hs => by
    rw [e s]
    split
    · rename_i c; subst c; exact h.up s hs
    · exact M47.ole_refl _
  refine ⟨by rw [List.length_set]; exact h.len, fun s k hs q => ?_, fun s hs => ?_, fun y hy s hs => ?_⟩
  · rw [e s] at q
    split at q
    · unfold GO capO at q
      split at q
      · cases q
      · split at q
        · cases q
        · cases q; omega
    · exact h.tp s k hs q
  · refine M47.ole_trans ?_ (GO_mono hb le s hs)
    rw [e s]
    split
    · rename_i c; subst c; exact M47.ole_refl _
    · exact h.up s hs
  · rw [e s]
    split
    · rename_i c
      subst c
      exact M47.ole_trans (GO_mono hb (h.least y hy) s hs) (hy s hs)
    · exact h.least y hy s hs
theorem capO_val (top : Int) (o : Option Nat) : capO top o = none ∨ capO top o = o := by
  unfold capO
  split
  · exact .inl rfl
  · split
    · exact .inl rfl
    · exact .inr rfl
theorem eqv_oDT {a b : Option Nat} (h : D.eqv (oD a) (oD b) = true) : a = b := of_decide_eq_true ((eqv_oD a b).symm.trans h)
theorem eqv_oDF {a b : Option Nat} (h : D.eqv (oD a) (oD b) = false) : a ≠ b := of_decide_eq_false ((eqv_oD a b).symm.trans h)
theorem risen_ok (Φ : Ctx) {b : Brd} (hb : GB b) {g : List Int} {top : Int} (hg : g.length = b.length) (ht : 0 ≤ top)
    (hF : ∀ (v : List (Option Nat)) (i : Nat) (Q : D → Prop), v.length = b.length → i < b.length → Q (oD (needO b g v i)) → Φ.F 162 [bD b, .tup (iD g), .lst (v.map oD), .int (i : Int)] Q)
    {Q : D → Prop} (q : ∀ v, Lf b g top v → Q (vD v)) : wF Φ f_risen [bD b, .tup (iD g), .int top] Q := by
  (refine wF_at [.sh _, .sh _, .sh _, .un, .un, .un, .un] rfl (by decide) rfl ?_)
  have hs := hb.small
  have hl : (b.map spD).length = b.length := List.length_map ..
  ((repeat ((conv => whnf); refine And.intro (by first | exact trivial | exact rfl | omega | assumption | decide | exact pls_nD _ _) ?_)); (conv => whnf))
  rw [hl]
  have e0 : (List.replicate ((b.length : Int)).toNat [D.int 0]).flatten = (List.replicate b.length (some 0)).map oD := by
    have : ((b.length : Int)).toNat = b.length := by omega
    rw [this]
    simp [oD]
  (try simp only [List.set_cons_succ, List.set_cons_zero, freezeI, wipeE, backE, freeze, freezes, behind, List.getElem?_cons_succ, List.getElem?_cons_zero, Slot.val, Option.getD_some, ite_self])
  rw [e0]
  refine ⟨muT top.toNat (List.replicate b.length (some 0)) + 2, whW_inv (I := fun n ρ => ∃ (v : List (Option Nat)) (gr : Bool) (s5 s6 : Slot), Up b g top v ∧ (gr = false → ∀ s, s < b.length → vec v s = GO b g top v s) ∧ n = muT top.toNat v + (if gr then 1 else 0) ∧
    ρ = [.sh (bD b), .sh (.tup (iD g)), .sh (.int top), .ol (v.map oD), .sh (.bl gr), s5, s6]) ?_ (muT top.toNat (List.replicate b.length (some 0)) + 1) _ ⟨_, true, .un, .un, Up.start ht, (fun h => nomatch h), rfl, rfl⟩ _ (Nat.lt_succ_self _)⟩
  rintro n ρ K ⟨v, gr, s5, s6, hU, hgr, hn, rfl⟩ hK
  ((repeat ((conv => whnf); refine And.intro (by first | exact trivial | exact rfl | omega | assumption | decide | exact pls_nD _ _) ?_)); (conv => whnf))
  refine bif_by (fun h => ?_) (fun h => ?_)
  · subst h
    ((repeat ((conv => whnf); refine And.intro (by first | exact trivial | exact rfl | omega | assumption | decide | exact pls_nD _ _) ?_)); (conv => whnf))
    refine And.intro (by rw [hl]; unfold LB; omega) (And.intro (by omega) ?_)
    rw [hl, rangeD_nat]
    refine foW_inv (I := fun i ρ => i ≤ b.length ∧ ∃ (w : List (Option Nat)) (gr : Bool) (s5 s6 : Slot), Up b g top w ∧ muT top.toNat w + (if gr then 1 else 0) ≤ muT top.toNat v ∧ (gr = false → w = v ∧ ∀ s, s < i → vec v s = GO b g top v s) ∧
      ρ = [.sh (bD b), .sh (.tup (iD g)), .sh (.int top), .ol (w.map oD), .sh (.bl gr), s5, s6]) ⟨Nat.zero_le _, v, false, s5, s6, hU, Nat.le_refl _, (fun _ => ⟨rfl, fun s h => by omega⟩), rfl⟩ ?_ ?_
    · rintro i d ρ K2 hd ⟨hi, w, gr, s5, s6, hW, hmu, hgr2, rfl⟩ hK2
      have hlt : i < b.length := by
        have := (List.getElem?_eq_some_iff.mp hd).1
        simpa [nD] using this
      have ed : d = .int (i : Int) := by
        have : (nD (List.range b.length))[i]? = some (.int (i : Int)) := nD_get (by simp [hlt])
        rw [this] at hd
        exact (Option.some.inj hd).symm
      subst ed
      ((repeat ((conv => whnf); refine And.intro (by first | exact trivial | exact rfl | omega | assumption | decide | exact pls_nD _ _) ?_)); (conv => whnf))
      refine hF w i _ hW.len hlt ?_
      (try simp only [List.set_cons_succ, List.set_cons_zero, freezeI, wipeE, backE, freeze, freezes, behind, List.getElem?_cons_succ, List.getElem?_cons_zero, Slot.val, Option.getD_some, ite_self])
      have hwi : (w.map oD)[i]? = some (oD (vec w i)) := by have := hW.len; simp [vec, List.getD, show i < w.length by omega]
      cases e : needO b g w i with
      | none =>
        have hG : GO b g top w i = none := by unfold GO; rw [e]; rfl
        have hpl : D.pl 9 (oD (vec w i)) = true := pl_oD 9 _
        ((repeat ((conv => whnf); refine And.intro (by first | exact trivial | exact rfl | omega | assumption | decide | exact pls_nD _ _) ?_)); (conv => whnf))
        (try simp only [List.set_cons_succ, List.set_cons_zero, freezeI, wipeE, backE, freeze, freezes, behind, List.getElem?_cons_succ, List.getElem?_cons_zero, Slot.val, Option.getD_some, ite_self])
        refine idxL_nat hwi ?_
        ((repeat ((conv => whnf); refine And.intro (by first | exact trivial | exact rfl | omega | assumption | decide | exact pls_nD _ _) ?_)); (conv => whnf))
        have hup := hW.up i hlt
        rw [hG] at hup
        have hwl : i < (w.map oD).length := by rw [List.length_map, hW.len]; exact hlt
        refine bif_by (fun h1 => ?_) (fun h1 => ?_)
        · have h1 : (none : Option Nat) ≠ vec w i := eqv_oDF (a := none) (not_T h1)
          ((repeat ((conv => whnf); refine And.intro (by first | exact trivial | exact rfl | omega | assumption | decide | exact pls_nD _ _) ?_)); (conv => whnf))
          refine idxL_nat hwi ?_
          cases e9 : vec w i with
          | none =>
            rw [e9] at hup h1
            exact (h1 (M47.ole_antisymm (M47.ole_none _) hup)).elim
          | some k9 =>
            ((repeat ((conv => whnf); refine And.intro (by first | exact trivial | exact rfl | omega | assumption | decide | exact pls_nD _ _) ?_)); (conv => whnf))
            refine setL_nat hwl ?_
            ((repeat ((conv => whnf); refine And.intro (by first | exact trivial | exact rfl | omega | assumption | decide | exact pls_nD _ _) ?_)); (conv => whnf))
            refine hK2 _ ⟨hlt, w.set i (none), true, .sh (.int (i : Int)), .sh (oD (none)), by have := hW.set hb hlt; rw [hG] at this; exact this, ?_, (fun h => nomatch h), ?_⟩
            · have h2 : muT top.toNat (w.set i (none)) < muT top.toNat w := by
                refine muT_set (k := k9) ?_ ?_ fun k' hk' => ?_
                · have : i < w.length := by rw [hW.len]; exact hlt
                  simpa [vec, List.getD, this] using e9
                · have := hW.tp i k9 hlt e9; omega
                · rw [hk', e9] at hup
                  have hup : k9 ≤ k' := hup
                  have : k' ≠ k9 := fun z => h1 (by rw [hk', e9, z])
                  omega
              simp only [if_true]
              omega
            · rw [List.map_set]
              rfl
        · have h1 : (none : Option Nat) = vec w i := eqv_oDT (a := none) (not_F h1)
          refine hK2 _ ⟨hlt, w, gr, .sh (.int (i : Int)), .sh (oD (none)), hW, hmu, fun h9 => ?_, rfl⟩
          obtain ⟨e1, e2⟩ := hgr2 h9
          subst e1
          refine ⟨rfl, fun s hs9 => ?_⟩
          by_cases c : s = i
          · subst c; rw [hG]; exact h1.symm
          · exact e2 s (by omega)
      | some k =>
        ((repeat ((conv => whnf); refine And.intro (by first | exact trivial | exact rfl | omega | assumption | decide | exact pls_nD _ _) ?_)); (conv => whnf))
        refine bif_by (fun h => ?_) (fun h => ?_)
        · have h : top < (k : Int) := of_decide_eq_true h
          have hG : GO b g top w i = none := by unfold GO; rw [e]; exact if_pos h
          have hpl : D.pl 9 (oD (vec w i)) = true := pl_oD 9 _
          ((repeat ((conv => whnf); refine And.intro (by first | exact trivial | exact rfl | omega | assumption | decide | exact pls_nD _ _) ?_)); (conv => whnf))
          (try simp only [List.set_cons_succ, List.set_cons_zero, freezeI, wipeE, backE, freeze, freezes, behind, List.getElem?_cons_succ, List.getElem?_cons_zero, Slot.val, Option.getD_some, ite_self])
          refine idxL_nat hwi ?_
          ((repeat ((conv => whnf); refine And.intro (by first | exact trivial | exact rfl | omega | assumption | decide | exact pls_nD _ _) ?_)); (conv => whnf))
          have hup := hW.up i hlt
          rw [hG] at hup
          have hwl : i < (w.map oD).length := by rw [List.length_map, hW.len]; exact hlt
          refine bif_by (fun h1 => ?_) (fun h1 => ?_)
          · have h1 : (none : Option Nat) ≠ vec w i := eqv_oDF (a := none) (not_T h1)
            ((repeat ((conv => whnf); refine And.intro (by first | exact trivial | exact rfl | omega | assumption | decide | exact pls_nD _ _) ?_)); (conv => whnf))
            refine idxL_nat hwi ?_
            cases e9 : vec w i with
            | none =>
              rw [e9] at hup h1
              exact (h1 (M47.ole_antisymm (M47.ole_none _) hup)).elim
            | some k9 =>
              ((repeat ((conv => whnf); refine And.intro (by first | exact trivial | exact rfl | omega | assumption | decide | exact pls_nD _ _) ?_)); (conv => whnf))
              refine setL_nat hwl ?_
              ((repeat ((conv => whnf); refine And.intro (by first | exact trivial | exact rfl | omega | assumption | decide | exact pls_nD _ _) ?_)); (conv => whnf))
              refine hK2 _ ⟨hlt, w.set i (none), true, .sh (.int (i : Int)), .sh (oD (none)), by have := hW.set hb hlt; rw [hG] at this; exact this, ?_, (fun h => nomatch h), ?_⟩
              · have h2 : muT top.toNat (w.set i (none)) < muT top.toNat w := by
                  refine muT_set (k := k9) ?_ ?_ fun k' hk' => ?_
                  · have : i < w.length := by rw [hW.len]; exact hlt
                    simpa [vec, List.getD, this] using e9
                  · have := hW.tp i k9 hlt e9; omega
                  · rw [hk', e9] at hup
                    have hup : k9 ≤ k' := hup
                    have : k' ≠ k9 := fun z => h1 (by rw [hk', e9, z])
                    omega
                simp only [if_true]
                omega
              · rw [List.map_set]
                rfl
          · have h1 : (none : Option Nat) = vec w i := eqv_oDT (a := none) (not_F h1)
            refine hK2 _ ⟨hlt, w, gr, .sh (.int (i : Int)), .sh (oD (none)), hW, hmu, fun h9 => ?_, rfl⟩
            obtain ⟨e1, e2⟩ := hgr2 h9
            subst e1
            refine ⟨rfl, fun s hs9 => ?_⟩
            by_cases c : s = i
            · subst c; rw [hG]; exact h1.symm
            · exact e2 s (by omega)
        · have h : ¬ top < (k : Int) := of_decide_eq_false h
          have hG : GO b g top w i = some k := by unfold GO; rw [e]; exact if_neg h
          have hpl : D.pl 9 (oD (vec w i)) = true := pl_oD 9 _
          ((repeat ((conv => whnf); refine And.intro (by first | exact trivial | exact rfl | omega | assumption | decide | exact pls_nD _ _) ?_)); (conv => whnf))
          (try simp only [List.set_cons_succ, List.set_cons_zero, freezeI, wipeE, backE, freeze, freezes, behind, List.getElem?_cons_succ, List.getElem?_cons_zero, Slot.val, Option.getD_some, ite_self])
          refine idxL_nat hwi ?_
          ((repeat ((conv => whnf); refine And.intro (by first | exact trivial | exact rfl | omega | assumption | decide | exact pls_nD _ _) ?_)); (conv => whnf))
          have hup := hW.up i hlt
          rw [hG] at hup
          have hwl : i < (w.map oD).length := by rw [List.length_map, hW.len]; exact hlt
          refine bif_by (fun h1 => ?_) (fun h1 => ?_)
          · have h1 : (some k : Option Nat) ≠ vec w i := eqv_oDF (a := some k) (not_T h1)
            ((repeat ((conv => whnf); refine And.intro (by first | exact trivial | exact rfl | omega | assumption | decide | exact pls_nD _ _) ?_)); (conv => whnf))
            refine idxL_nat hwi ?_
            cases e9 : vec w i with
            | none =>
              rw [e9] at hup h1
              exact (h1 (M47.ole_antisymm (M47.ole_none _) hup)).elim
            | some k9 =>
              ((repeat ((conv => whnf); refine And.intro (by first | exact trivial | exact rfl | omega | assumption | decide | exact pls_nD _ _) ?_)); (conv => whnf))
              refine setL_nat hwl ?_
              ((repeat ((conv => whnf); refine And.intro (by first | exact trivial | exact rfl | omega | assumption | decide | exact pls_nD _ _) ?_)); (conv => whnf))
              refine hK2 _ ⟨hlt, w.set i (some k), true, .sh (.int (i : Int)), .sh (oD (some k)), by have := hW.set hb hlt; rw [hG] at this; exact this, ?_, (fun h => nomatch h), ?_⟩
              · have h2 : muT top.toNat (w.set i (some k)) < muT top.toNat w := by
                  refine muT_set (k := k9) ?_ ?_ fun k' hk' => ?_
                  · have : i < w.length := by rw [hW.len]; exact hlt
                    simpa [vec, List.getD, this] using e9
                  · have := hW.tp i k9 hlt e9; omega
                  · rw [hk', e9] at hup
                    have hup : k9 ≤ k' := hup
                    have : k' ≠ k9 := fun z => h1 (by rw [hk', e9, z])
                    omega
                simp only [if_true]
                omega
              · rw [List.map_set]
                rfl
          · have h1 : (some k : Option Nat) = vec w i := eqv_oDT (a := some k) (not_F h1)
            refine hK2 _ ⟨hlt, w, gr, .sh (.int (i : Int)), .sh (oD (some k)), hW, hmu, fun h9 => ?_, rfl⟩
            obtain ⟨e1, e2⟩ := hgr2 h9
            subst e1
            refine ⟨rfl, fun s hs9 => ?_⟩
            by_cases c : s = i
            · subst c; rw [hG]; exact h1.symm
            · exact e2 s (by omega)
    · rintro ρ ⟨_, w, gr, s5, s6, hW, hmu, hgr2, rfl⟩
      have el : (nD (List.range b.length)).length = b.length := by simp [nD]
      rw [el] at hgr2
      refine hK _ _ ?_ ⟨w, gr, s5, s6, hW, fun h => ?_, rfl, rfl⟩
      · rw [hn]
        simp only [if_true]
        omega
      · obtain ⟨e1, e2⟩ := hgr2 h
        rw [e1]
        exact e2
  · subst h
    ((repeat ((conv => whnf); refine And.intro (by first | exact trivial | exact rfl | omega | assumption | decide | exact pls_nD _ _) ?_)); (conv => whnf))
    exact q v ⟨hU.len, hgr rfl, hU.least⟩
end Wg
set_option Elab.async false
set_option linter.all false
set_option maxRecDepth 100000
set_option maxHeartbeats 1000000
/-! Wg: what is drawn. Plain Lean. -/
namespace Wg
theorem leD_nat (a b : Nat) : leD (.int (a : Int)) (.int (b : Int)) = decide (a ≤ b) := by
  unfold leD
  rw [lt_nat, Bool.eq_iff_iff]
  simp
/-- numbers in order -/
def srt (l : List Nat) : List Nat := l.mergeSort fun a b => decide (a ≤ b)
theorem srt_perm (l : List Nat) : (srt l).Perm l := List.mergeSort_perm _ _
theorem srt_le (l : List Nat) : (srt l).Pairwise (· ≤ ·) := by
  have := List.pairwise_mergeSort (le := fun a b : Nat => decide (a ≤ b)) (fun a b c h1 h2 => by simp at *; omega) (fun a b => by simp; omega) l
  exact this.imp fun h => of_decide_eq_true h
theorem srt_lt {l : List Nat} (h : l.Nodup) : (srt l).Pairwise (· < ·) := by
  have h1 := srt_le l
  have h2 : (srt l).Pairwise (· ≠ ·) := (srt_perm l).nodup_iff.mpr h
  exact (h1.and h2).imp fun ⟨a, b⟩ => by omega
theorem sortD_nD (l : List Nat) : sortD (nD l) = nD (srt l) := by
  unfold sortD nD srt
  exact (List.map_mergeSort fun a _ b _ => (leD_nat a b).symm).symm
theorem alike_sortable (l : List Nat) : allAlike (nD l) ∧ sortable (nD l) := ⟨alike_nD l, .inr fun x hx => by
  obtain ⟨k, _, rfl⟩ := List.mem_map.mp hx
  rfl⟩
/-- one behind another, each drawn from those that are left -/
theorem shuffled_ok {P : Prog} (h27 : P.fns 27 = some f_law_shuffled) {n : Nat} (items : List D) (hi : items.length ≤ 1000) {Q : D → Prop} (q : ∀ l : List D, l.Perm items → Q (.tup l)) : run P (n + 1) 27 [.pool, .tup items] Q := by
  refine run_of h27 (by decide) ?_
  (refine wF_at [.sh _, .sh _, .un, .un, .un] rfl (by decide) rfl ?_)
  ((repeat ((conv => whnf); refine And.intro (by first | exact trivial | exact rfl | omega | assumption | decide | exact pls_nD _ _) ?_)); (conv => whnf))
  (try simp only [List.set_cons_succ, List.set_cons_zero, freezeI, wipeE, backE, freeze, freezes, behind, List.getElem?_cons_succ, List.getElem?_cons_zero, Slot.val, Option.getD_some, ite_self])
  refine ⟨items.length + 1, whW_inv (I := fun n ρ => ∃ (l f : List D) (s4 : Slot), (f ++ l).Perm items ∧ n = l.length ∧ ρ = [.sh .pool, .sh (.tup items), .ol l, .ol f, s4]) ?_ items.length _ ⟨items, [], .un, .refl _, rfl, rfl⟩ _ (Nat.lt_succ_self _)⟩
  rintro n ρ K ⟨l, f, s4, hp, hn, rfl⟩ hK
  have hlen := hp.length_eq
  rw [List.length_append] at hlen
  ((repeat ((conv => whnf); refine And.intro (by first | exact trivial | exact rfl | omega | assumption | decide | exact pls_nD _ _) ?_)); (conv => whnf))
  refine bif_by (fun h => ?_) (fun h => ?_)
  · have h : 0 < l.length := lt_natT (a := 0) h
    ((repeat ((conv => whnf); refine And.intro (by first | exact trivial | exact rfl | omega | assumption | decide | exact pls_nD _ _) ?_)); (conv => whnf))
    refine run_draw (by omega) (by omega) fun v h0 h1 => ?_
    obtain ⟨d, hd⟩ : ∃ d, l[v.toNat]? = some d := ⟨l[v.toNat], List.getElem?_eq_getElem (by omega)⟩
    (try simp only [List.set_cons_succ, List.set_cons_zero, freezeI, wipeE, backE, freeze, freezes, behind, List.getElem?_cons_succ, List.getElem?_cons_zero, Slot.val, Option.getD_some, ite_self])
    ((repeat ((conv => whnf); refine And.intro (by first | exact trivial | exact rfl | omega | assumption | decide | exact pls_nD _ _) ?_)); (conv => whnf))
    refine idxL_int h0 hd ?_
    have hf : f.length < LB := by unfold LB; omega
    ((repeat ((conv => whnf); refine And.intro (by first | exact trivial | exact rfl | omega | assumption | decide | exact pls_nD _ _) ?_)); (conv => whnf))
    have hv : v.toNat < l.length := by omega
    have c1 : (if v < 0 then (max (v + (l.length : Int)) 0).toNat else (min v (l.length : Int)).toNat) = v.toNat := by rw [if_neg (by omega)]; omega
    have c2 : (if v + 1 < 0 then (max (v + 1 + (l.length : Int)) 0).toNat else (min (v + 1) (l.length : Int)).toNat) = v.toNat + 1 := by rw [if_neg (by omega)]; omega
    have e1 : (l.drop 0).take ((if v < 0 then (max (v + (l.length : Int)) 0).toNat else (min v (l.length : Int)).toNat) - 0) = l.take v.toNat := by rw [c1]; simp
    have e2 : (l.drop (if v + 1 < 0 then (max (v + 1 + (l.length : Int)) 0).toNat else (min (v + 1) (l.length : Int)).toNat)).take (l.length - (if v + 1 < 0 then (max (v + 1 + (l.length : Int)) 0).toNat else (min (v + 1) (l.length : Int)).toNat)) = l.drop (v.toNat + 1) := by
      rw [c2, List.take_of_length_le]
      simp
    have e : (l.drop 0).take ((if v < 0 then (max (v + (l.length : Int)) 0).toNat else (min v (l.length : Int)).toNat) - 0) ++ (l.drop (if v + 1 < 0 then (max (v + 1 + (l.length : Int)) 0).toNat else (min (v + 1) (l.length : Int)).toNat)).take (l.length - (if v + 1 < 0 then (max (v + 1 + (l.length : Int)) 0).toNat else (min (v + 1) (l.length : Int)).toNat)) = l.take v.toNat ++ l.drop (v.toNat + 1) := by rw [e1, e2]
    have el : l = l.take v.toNat ++ d :: l.drop (v.toNat + 1) := by
      have e3 : l[v.toNat] = d := by rw [List.getElem?_eq_getElem hv] at hd; exact Option.some.inj hd
      rw [← e3, List.getElem_cons_drop, List.take_append_drop]
    refine And.intro ?_ (hK (l.length - 1) _ (by omega) ⟨l.take v.toNat ++ l.drop (v.toNat + 1), f ++ [d], .sh (.int v), ?_, by simp; omega, ?_⟩)
    · have : (l.take v.toNat ++ l.drop (v.toNat + 1)).length ≤ LB := by simp [LB]; omega
      rw [← e, List.length_append] at this
      exact this
    · refine List.Perm.trans ?_ hp
      rw [List.append_assoc]
      refine List.Perm.append_left f ?_
      conv => rhs; rw [el]
      show (d :: (l.take v.toNat ++ l.drop (v.toNat + 1))).Perm _
      exact List.perm_middle.symm
    · rw [← e]
      rfl
  · have h : ¬ 0 < l.length := lt_natF (a := 0) h
    have e : l = [] := List.eq_nil_of_length_eq_zero (by omega)
    subst e
    ((repeat ((conv => whnf); refine And.intro (by first | exact trivial | exact rfl | omega | assumption | decide | exact pls_nD _ _) ?_)); (conv => whnf))
    exact q f (by simpa using hp)
/-- a board as it is drawn -/
structure DB (most : Nat) (b : Brd) : Prop where
  pos : 1 ≤ b.length
  len : b.length ≤ most
  ne : ∀ p ∈ b, p.2 ≠ []
  asc : ∀ p ∈ b, p.2.Pairwise (· < ·)
  lt : ∀ p ∈ b, ∀ w ∈ p.2, w < b.length
  few : ∀ p ∈ b, p.2.length ≤ 3
theorem DB.gb {most : Nat} {b : Brd} (h : DB most b) (hm : most ≤ 1000) : GB b := ⟨by have := h.len; omega, h.ne, h.lt⟩
theorem perm_nD {l : List D} {ks : List Nat} (h : l.Perm (nD ks)) : ∃ js, l = nD js ∧ js.Perm ks := by
  let num : D → Nat := fun d => match d with | .int i => i.toNat | _ => 0
  have fwd : (nD ks).map num = ks := by
    rw [nD, List.map_map]
    have : (num ∘ fun (n : Nat) => D.int (n : Int)) = id := by funext n; show ((n : Int)).toNat = n; omega
    rw [this, List.map_id]
  have back : ∀ l : List D, (∀ x ∈ l, x ∈ nD ks) → nD (l.map num) = l := by
    intro l
    induction l with
    | nil => intro _; rfl
    | cons x l ih =>
      intro h
      obtain ⟨k, _, rfl⟩ := List.mem_map.mp (h x List.mem_cons_self)
      have := ih fun y hy => h y (List.mem_cons_of_mem _ hy)
      show D.int (((k : Int).toNat : Nat) : Int) :: nD (l.map num) = _
      rw [this]
      simp
  exact ⟨l.map num, (back l fun x hx => h.mem_iff.mp hx).symm, by have := h.map num; rw [fwd] at this; exact this⟩
theorem board_ok {P : Prog} (h6 : P.fns 6 = some f_law_board) (h27 : P.fns 27 = some f_law_shuffled) {n : Nat} (most : Nat) (hm0 : 0 < most) (hm : most ≤ 1000) {Q : D → Prop} (q : ∀ b : Brd, DB most b → Q (bD b)) : run P (n + 2) 6 [.pool, .int (most : Int)] Q := by
  refine run_of h6 (by decide) ?_
  (refine wF_at [.sh _, .sh _, .un, .un, .un, .un] rfl (by decide) rfl ?_)
  ((repeat ((conv => whnf); refine And.intro (by first | exact trivial | exact rfl | omega | assumption | decide | exact pls_nD _ _) ?_)); (conv => whnf))
  intro v h0 h1
  (try simp only [List.set_cons_succ, List.set_cons_zero, freezeI, wipeE, backE, freeze, freezes, behind, List.getElem?_cons_succ, List.getElem?_cons_zero, Slot.val, Option.getD_some, ite_self])
  ((repeat ((conv => whnf); refine And.intro (by first | exact trivial | exact rfl | omega | assumption | decide | exact pls_nD _ _) ?_)); (conv => whnf))
  intro w h2 h3
  (try simp only [List.set_cons_succ, List.set_cons_zero, freezeI, wipeE, backE, freeze, freezes, behind, List.getElem?_cons_succ, List.getElem?_cons_zero, Slot.val, Option.getD_some, ite_self])
  ((repeat ((conv => whnf); refine And.intro (by first | exact trivial | exact rfl | omega | assumption | decide | exact pls_nD _ _) ?_)); (conv => whnf))
  obtain ⟨m, em⟩ : ∃ m : Nat, 1 + (if v < w then w else v) = (m : Int) := ⟨(1 + (if v < w then w else v)).toNat, by split <;> omega⟩
  have hm1 : 1 ≤ m ∧ m ≤ most := by split at em <;> omega
  rw [em]
  (try simp only [List.set_cons_succ, List.set_cons_zero, freezeI, wipeE, backE, freeze, freezes, behind, List.getElem?_cons_succ, List.getElem?_cons_zero, Slot.val, Option.getD_some, ite_self])
  ((repeat ((conv => whnf); refine And.intro (by first | exact trivial | exact rfl | omega | assumption | decide | exact pls_nD _ _) ?_)); (conv => whnf))
  refine And.intro (by unfold LB; omega) (And.intro (by omega) ?_)
  rw [rangeD_nat]
  refine foW_inv (I := fun i ρ => ∃ (l : Brd) (s4 s5 : Slot), l.length = i ∧ (∀ p ∈ l, p.2 ≠ [] ∧ p.2.Pairwise (· < ·) ∧ (∀ w ∈ p.2, w < m) ∧ p.2.length ≤ 3) ∧
    ρ = [.sh .pool, .sh (.int (most : Int)), .sh (.int (m : Int)), .sh (.tup (l.map spD)), s4, s5]) ⟨[], .un, .un, rfl, (fun p h => nomatch h), rfl⟩ ?_ ?_
  · rintro i d ρ K hd ⟨l, s4, s5, hl, hok, rfl⟩ hK
    have him : i < m := by
      have := (List.getElem?_eq_some_iff.mp hd).1
      simpa [nD] using this
    ((repeat ((conv => whnf); refine And.intro (by first | exact trivial | exact rfl | omega | assumption | decide | exact pls_nD _ _) ?_)); (conv => whnf))
    refine And.intro (by unfold LB; omega) (And.intro (by omega) ?_)
    ((repeat ((conv => whnf); refine And.intro (by first | exact trivial | exact rfl | omega | assumption | decide | exact pls_nD _ _) ?_)); (conv => whnf))
    rw [rangeD_nat]
    refine shuffled_ok h27 _ (by simp [nD]; omega) fun l' hp => ?_
    obtain ⟨js, rfl, hjs⟩ := perm_nD hp
    (try simp only [List.set_cons_succ, List.set_cons_zero, freezeI, wipeE, backE, freeze, freezes, behind, List.getElem?_cons_succ, List.getElem?_cons_zero, Slot.val, Option.getD_some, ite_self])
    ((repeat ((conv => whnf); refine And.intro (by first | exact trivial | exact rfl | omega | assumption | decide | exact pls_nD _ _) ?_)); (conv => whnf))
    intro k h4 h5
    (try simp only [List.set_cons_succ, List.set_cons_zero, freezeI, wipeE, backE, freeze, freezes, behind, List.getElem?_cons_succ, List.getElem?_cons_zero, Slot.val, Option.getD_some, ite_self])
    ((repeat ((conv => whnf); refine And.intro (by first | exact trivial | exact rfl | omega | assumption | decide | exact pls_nD _ _) ?_)); (conv => whnf))
    have ek : (if 1 + k < 0 then (max (1 + k + ((nD js).length : Int)) 0).toNat else (min (1 + k) ((nD js).length : Int)).toNat) - 0 = min (1 + k.toNat) js.length := by
      rw [if_neg (by omega), nD_len]
      omega
    have et : ((nD js).drop 0).take ((if 1 + k < 0 then (max (1 + k + ((nD js).length : Int)) 0).toNat else (min (1 + k) ((nD js).length : Int)).toNat) - 0) = nD (js.take (1 + k.toNat)) := by
      rw [ek]
      unfold nD
      rw [List.drop_zero, ← List.map_take]
      congr 1
      rcases Nat.le_total (1 + k.toNat) js.length with c | c
      · rw [Nat.min_eq_left c]
      · rw [Nat.min_eq_right c, List.take_of_length_le (Nat.le_refl _), List.take_of_length_le c]
    rw [et]
    intro o h6 h7
    (try simp only [List.set_cons_succ, List.set_cons_zero, freezeI, wipeE, backE, freeze, freezes, behind, List.getElem?_cons_succ, List.getElem?_cons_zero, Slot.val, Option.getD_some, ite_self])
    have ok2 := alike_sortable (js.take (1 + k.toNat))
    have hnd : (js.take (1 + k.toNat)).Nodup := (hjs.nodup_iff.mpr List.nodup_range).sublist (List.take_sublist _ _)
    ((repeat ((conv => whnf); refine And.intro (by first | exact trivial | exact rfl | omega | assumption | decide | exact pls_nD _ _) ?_)); (conv => whnf))
    refine And.intro ok2.1 (And.intro ok2.2 ?_)
    rw [sortD_nD]
    ((repeat ((conv => whnf); refine And.intro (by first | exact trivial | exact rfl | omega | assumption | decide | exact pls_nD _ _) ?_)); (conv => whnf))
    refine And.intro (by simp [LB]; omega) ?_
    have hjl : js.length = m := by have := hjs.length_eq; simpa using this
    have hp2 := srt_perm (js.take (1 + k.toNat))
    refine hK _ ⟨l ++ [(decide (o = 0), srt (js.take (1 + k.toNat)))], .sh d, .sh (.tup (nD (js.take (1 + k.toNat)))), by simp [hl], fun p hp => ?_, ?_⟩
    · rcases List.mem_append.mp hp with hp | hp
      · exact hok p hp
      · have : p = (decide (o = 0), srt (js.take (1 + k.toNat))) := by simpa using hp
        subst this
        refine ⟨fun e => ?_, srt_lt hnd, fun w hw => ?_, ?_⟩
        · have := hp2.length_eq
          have e : srt (js.take (1 + k.toNat)) = [] := e
          rw [e] at this
          simp at this
          omega
        · have := List.mem_of_mem_take (hp2.mem_iff.mp hw)
          exact List.mem_range.mp (hjs.mem_iff.mp this)
        · have := hp2.length_eq
          show (srt (js.take (1 + k.toNat))).length ≤ 3
          rw [this]
          simp
          omega
    · have eo : D.int o = .int (if decide (o = 0) = true then 0 else 1) := by
        by_cases c : o = 0
        · subst c; rfl
        · have : o = 1 := by omega
          subst this; rfl
      rw [List.map_append]
      show _ = [_, _, _, Slot.sh (.tup (l.map spD ++ [.tup [.int (if decide (o = 0) = true then 0 else 1), .tup (nD (srt (js.take (1 + k.toNat))))]])), _, _]
      rw [← eo]
      rfl
  · rintro ρ ⟨l, s4, s5, hl, hok, rfl⟩
    have hl : l.length = m := by rw [hl]; simp [nD]
    ((repeat ((conv => whnf); refine And.intro (by first | exact trivial | exact rfl | omega | assumption | decide | exact pls_nD _ _) ?_)); (conv => whnf))
    exact q l ⟨by omega, by omega, fun p hp => (hok p hp).1, fun p hp => (hok p hp).2.1, fun p hp => by rw [hl]; exact (hok p hp).2.2.1, fun p hp => (hok p hp).2.2.2⟩
theorem lcW_sub {step : D → Env → (Option D → Env → Prop) → Prop} {ρ : Env} {Q : List D → Env → Prop} : ∀ (l : List D) (acc : List D), (∀ a ∈ l, ∀ K : Option D → Env → Prop, K (some a) ρ → K none ρ → step a ρ K) → (∀ l' : List D, l'.Sublist l → Q (acc ++ l') ρ) → lcW step l acc ρ Q
  | [], acc, _, q => by
    have := q [] (List.Sublist.refl _)
    rw [List.append_nil] at this
    exact this
  | x :: xs, acc, h, q => by
    refine h x List.mem_cons_self _ ?_ ?_
    · refine lcW_sub xs _ (fun a ha => h a (List.mem_cons_of_mem _ ha)) fun l' hl' => ?_
      have := q (x :: l') (hl'.cons_cons x)
      simpa using this
    · refine lcW_sub xs _ (fun a ha => h a (List.mem_cons_of_mem _ ha)) fun l' hl' => ?_
      exact q l' (hl'.cons x)
theorem sub_nD {l : List D} {ks : List Nat} (h : l.Sublist (nD ks)) : ∃ js, l = nD js ∧ js.Sublist ks := by
  obtain ⟨js, h1, h2⟩ := List.sublist_map_iff.mp h
  exact ⟨js, h2, h1⟩
/-- a set as it is drawn -/
structure DS (m : Nat) (g : List Nat) : Prop where
  asc : g.Pairwise (· < ·)
  lt : ∀ s ∈ g, s < m
  len : g.length ≤ m
theorem set_ok {P : Prog} (h24 : P.fns 24 = some f_law_set) {n : Nat} (m : Nat) (hm : m ≤ 1000) {Q : D → Prop} (q : ∀ g, DS m g → Q (.tup (nD g))) : run P (n + 1) 24 [.pool, .int (m : Int)] Q := by
  refine run_of h24 (by decide) ?_
  (refine wF_at [.sh _, .sh _, .un] rfl (by decide) rfl ?_)
  ((repeat ((conv => whnf); refine And.intro (by first | exact trivial | exact rfl | omega | assumption | decide | exact pls_nD _ _) ?_)); (conv => whnf))
  refine And.intro (by unfold LB; omega) (And.intro (by omega) ?_)
  rw [rangeD_nat]
  refine lcW_sub _ _ (fun a ha K h1 h2 => ?_) fun l' hl => ?_
  · ((repeat ((conv => whnf); refine And.intro (by first | exact trivial | exact rfl | omega | assumption | decide | exact pls_nD _ _) ?_)); (conv => whnf))
    refine run_draw (by decide) (by decide) fun v h3 h4 => ?_
    (try simp only [List.set_cons_succ, List.set_cons_zero, freezeI, wipeE, backE, freeze, freezes, behind, List.getElem?_cons_succ, List.getElem?_cons_zero, Slot.val, Option.getD_some, ite_self])
    ((repeat ((conv => whnf); refine And.intro (by first | exact trivial | exact rfl | omega | assumption | decide | exact pls_nD _ _) ?_)); (conv => whnf))
    refine bif_by (fun h => ?_) (fun h => ?_)
    · ((repeat ((conv => whnf); refine And.intro (by first | exact trivial | exact rfl | omega | assumption | decide | exact pls_nD _ _) ?_)); (conv => whnf))
      exact h1
    · ((repeat ((conv => whnf); refine And.intro (by first | exact trivial | exact rfl | omega | assumption | decide | exact pls_nD _ _) ?_)); (conv => whnf))
      exact h2
  · obtain ⟨js, rfl, hjs⟩ := sub_nD hl
    refine q js ⟨List.pairwise_lt_range.sublist hjs, fun s hs => List.mem_range.mp (hjs.subset hs), by have := hjs.length_le; simpa using this⟩
end Wg
set_option Elab.async false
set_option linter.all false
set_option maxRecDepth 100000
set_option maxHeartbeats 1000000
/-! Wg: the law of tolls and stores. Plain Lean. -/
namespace Wg
/-- the greatest size of a gain -/
def mostG (g : List Int) : Nat := (g.map Int.natAbs).foldl max 0
theorem foldl_max_ge : ∀ (l : List Nat) (k : Nat), k ≤ l.foldl max k ∧ ∀ x ∈ l, x ≤ l.foldl max k
  | [], k => ⟨Nat.le_refl k, fun x h => nomatch h⟩
  | a :: l, k => by
    obtain ⟨h1, h2⟩ := foldl_max_ge l (max k a)
    refine ⟨Nat.le_trans (Nat.le_max_left k a) h1, fun x hx => ?_⟩
    rcases List.mem_cons.mp hx with e | e
    · subst e; exact Nat.le_trans (Nat.le_max_right k x) h1
    · exact h2 x e
theorem foldl_max_cons (a : Nat) (l : List Nat) : (a :: l).foldl max 0 = l.foldl max a := by show l.foldl max (max 0 a) = _; rw [Nat.zero_max]
theorem least_stores_ok {P : Prog} (h140 : P.fns 140 = some f_least_stores) (h198 : P.fns 198 = some f_risen) (h162 : P.fns 162 = some f_need_of) {n : Nat} {b : Brd} (hb : GB b) (h1 : 1 ≤ b.length) {g : List Int} (hg : g.length = b.length) {Q : D → Prop}
    (q : ∀ v, Lf b g (b.length * mostG g : Nat) v → Q (vD v)) : run P (n + 3) 140 [bD b, .tup (iD g)] Q := by
  refine run_of h140 (by decide) ?_
  (refine wF_at [.sh _, .sh _, .un] rfl (by decide) rfl ?_)
  ((repeat ((conv => whnf); refine And.intro (by first | exact trivial | exact rfl | omega | assumption | decide | exact pls_nD _ _) ?_)); (conv => whnf))
  refine lcW_onMap D.int (fun i => .int (i.natAbs : Nat)) g (fun i hi K hK => ?_) ?_
  · ((repeat ((conv => whnf); refine And.intro (by first | exact trivial | exact rfl | omega | assumption | decide | exact pls_nD _ _) ?_)); (conv => whnf))
    have e : (if i < 0 then -i else i) = (i.natAbs : Int) := by split <;> omega
    rw [e]
    exact hK
  (try simp only [List.set_cons_succ, List.set_cons_zero, freezeI, wipeE, backE, freeze, freezes, behind, List.getElem?_cons_succ, List.getElem?_cons_zero, Slot.val, Option.getD_some, ite_self])
  ((repeat ((conv => whnf); refine And.intro (by first | exact trivial | exact rfl | omega | assumption | decide | exact pls_nD _ _) ?_)); (conv => whnf))
  have e : g.map (fun i => D.int (i.natAbs : Nat)) = nD (g.map Int.natAbs) := by unfold nD; rw [List.map_map]; rfl
  rw [e]
  cases eg : g.map Int.natAbs with
  | nil =>
    have : g.length = 0 := by rw [← List.length_map (f := Int.natAbs), eg]; rfl
    omega
  | cons a l =>
    refine max_ok ?_
    have em : l.foldl max a = mostG g := by unfold mostG; rw [eg, foldl_max_cons]
    rw [em]
    have hl : (b.map spD).length = b.length := List.length_map ..
    have hs := hb.small
    ((repeat ((conv => whnf); refine And.intro (by first | exact trivial | exact rfl | omega | assumption | decide | exact pls_nD _ _) ?_)); (conv => whnf))
    refine And.intro (.inl (.inl (by rw [hl]; omega))) ?_
    ((repeat ((conv => whnf); refine And.intro (by first | exact trivial | exact rfl | omega | assumption | decide | exact pls_nD _ _) ?_)); (conv => whnf))
    rw [hl]
    have hm : ((b.length : Int) * (mostG g : Int)) = ((b.length * mostG g : Nat) : Int) := by simp
    rw [hm]
    refine run_of h198 (by decide) (risen_ok _ hb hg (by omega) (fun v i Q hv hi hq => run_of h162 (by decide) (need_of_ok _ hb hg hv hi hq)) fun v hv => ?_)
    exact q v hv
theorem drawn_in_ok {P : Prog} (h67 : P.fns 67 = some f_drawn_in) (h65 : P.fns 65 = some f_drawing_steps) {n : Nat} {b : Brd} (hb : GB b) (p : Bool) {g : List Nat} {Q : D → Prop}
    (q : ∀ v : List (Option Nat), v.length = b.length → M47.Fix (toP b hb p) M47.one (gl g) (vec v) → Q (.tup (nD ((List.range b.length).filter fun s => (vec v s).isSome)))) : run P (n + 2) 67 [bD b, pD p, .tup (nD g)] Q := by
  refine run_of h67 (by decide) ?_
  (refine wF_at [.sh _, .sh _, .sh _, .un, .un] rfl (by decide) rfl ?_)
  ((repeat ((conv => whnf); refine And.intro (by first | exact trivial | exact rfl | omega | assumption | decide | exact pls_nD _ _) ?_)); (conv => whnf))
  refine run_of h65 (by decide) (drawing_steps_ok _ hb p fun v hv hf => ?_)
  (try simp only [List.set_cons_succ, List.set_cons_zero, freezeI, wipeE, backE, freeze, freezes, behind, List.getElem?_cons_succ, List.getElem?_cons_zero, Slot.val, Option.getD_some, ite_self])
  ((repeat ((conv => whnf); refine And.intro (by first | exact trivial | exact rfl | omega | assumption | decide | exact pls_nD _ _) ?_)); (conv => whnf))
  have hs := hb.small
  have hl : (b.map spD).length = b.length := List.length_map ..
  refine And.intro (by rw [hl]; unfold LB; omega) (And.intro (by omega) ?_)
  rw [hl, rangeD_nat]
  refine lcW_on (fun (n : Nat) => D.int (n : Int)) (fun s => if (vec v s).isSome then some (.int (s : Int)) else none) (List.range b.length) (fun s hs K hK => ?_) ?_
  · have hs := List.mem_range.mp hs
    ((repeat ((conv => whnf); refine And.intro (by first | exact trivial | exact rfl | omega | assumption | decide | exact pls_nD _ _) ?_)); (conv => whnf))
    refine idxL_nat (d := oD (vec v s)) (by simp [vec, List.getD, show s < v.length by omega]) ?_
    cases e : vec v s with
    | none => ((repeat ((conv => whnf); refine And.intro (by first | exact trivial | exact rfl | omega | assumption | decide | exact pls_nD _ _) ?_)); (conv => whnf)); rw [e] at hK; exact hK
    | some k => ((repeat ((conv => whnf); refine And.intro (by first | exact trivial | exact rfl | omega | assumption | decide | exact pls_nD _ _) ?_)); (conv => whnf)); rw [e] at hK; exact hK
  have e : (List.range b.length).filterMap (fun s => if (vec v s).isSome then some (D.int (s : Int)) else none) = nD ((List.range b.length).filter fun s => (vec v s).isSome) := by
    exact filterMap_if _ _ _
  rw [e]
  (try simp only [List.set_cons_succ, List.set_cons_zero, freezeI, wipeE, backE, freeze, freezes, behind, List.getElem?_cons_succ, List.getElem?_cons_zero, Slot.val, Option.getD_some, ite_self])
  ((repeat ((conv => whnf); refine And.intro (by first | exact trivial | exact rfl | omega | assumption | decide | exact pls_nD _ _) ?_)); (conv => whnf))
  exact q v hv hf
/-- a comprehension whose items are numbers -/
theorem lcW_nums {α : Type} {step : D → Env → (Option D → Env → Prop) → Prop} {ρ : Env} {Q : List D → Env → Prop} (f : α → D) (R : α → Nat → Prop) : ∀ (l : List α) (acc : List D), (∀ a ∈ l, ∀ K : Option D → Env → Prop, (∀ k : Nat, R a k → K (some (.int (k : Int))) ρ) → step (f a) ρ K) →
    (∀ ks : List Nat, All2 R l ks → Q (acc ++ nD ks) ρ) → lcW step (l.map f) acc ρ Q
  | [], acc, _, q => by
    have := q [] .nil
    have e : acc ++ nD [] = acc := by simp [nD]
    rw [e] at this
    exact this
  | x :: xs, acc, h, q => by
    refine h x List.mem_cons_self _ fun k hk => ?_
    refine lcW_nums f R xs _ (fun a ha => h a (List.mem_cons_of_mem _ ha)) fun ks hks => ?_
    have := q (k :: ks) (.cons hk hks)
    have e : acc ++ nD (k :: ks) = acc ++ [D.int (k : Int)] ++ nD ks := by simp [nD]
    rw [e] at this
    exact this
theorem lcW_nums0 {α : Type} {step : D → Env → (Option D → Env → Prop) → Prop} {ρ : Env} {Q : List D → Env → Prop} (f : α → D) (R : α → Nat → Prop) (l : List α) (h : ∀ a ∈ l, ∀ K : Option D → Env → Prop, (∀ k : Nat, R a k → K (some (.int (k : Int))) ρ) → step (f a) ρ K)
    (q : ∀ ks : List Nat, All2 R l ks → Q (nD ks) ρ) : lcW step (l.map f) [] ρ Q := lcW_nums f R l [] h q
theorem All2.length {α β : Type} {R : α → β → Prop} : ∀ {l : List α} {m : List β}, All2 R l m → l.length = m.length
  | _, _, .nil => rfl
  | _, _, .cons _ t => congrArg (· + 1) t.length
theorem All2.get {α β : Type} {R : α → β → Prop} : ∀ {l : List α} {m : List β}, All2 R l m → ∀ {i : Nat} {a : α} {b : β}, l[i]? = some a → m[i]? = some b → R a b
  | _, _, .nil, _, _, _, h, _ => by simp at h
  | _, _, .cons r t, 0, _, _, h, g => by simp at h g; subst h g; exact r
  | _, _, .cons r t, i + 1, _, _, h, g => t.get (i := i) (by simpa using h) (by simpa using g)
/-- a board whose goals are ends -/
def endB (b : Brd) (g : List Nat) : Brd := (List.range b.length).map fun s => if gl g s then ((spot b s).1, [s]) else spot b s
theorem endB_len (b : Brd) (g : List Nat) : (endB b g).length = b.length := by simp [endB]
theorem spot_endB {b : Brd} {g : List Nat} {s : Nat} (hs : s < b.length) : spot (endB b g) s = if gl g s then ((spot b s).1, [s]) else spot b s := by
  have : (endB b g)[s]? = some (if gl g s then ((spot b s).1, [s]) else spot b s) := by simp [endB, hs]
  unfold spot List.getD
  rw [this]
  rfl
theorem mem_spot {b : Brd} {p : Bool × List Nat} (h : p ∈ b) : ∃ s, s < b.length ∧ spot b s = p := by
  obtain ⟨s, hs, e⟩ := List.getElem_of_mem h
  refine ⟨s, hs, ?_⟩
  unfold spot List.getD
  rw [List.getElem?_eq_getElem hs, e]
  rfl
theorem spot_mem {b : Brd} {s : Nat} (hs : s < b.length) : spot b s ∈ b := List.mem_of_getElem? (spot_get hs)
theorem endB_gb {b : Brd} (hb : GB b) (g : List Nat) : GB (endB b g) := by
  refine ⟨by rw [endB_len]; exact hb.small, fun p hp => ?_, fun p hp w hw => ?_⟩
  · obtain ⟨s, hs, rfl⟩ := mem_spot hp
    rw [endB_len] at hs
    rw [spot_endB hs]
    split
    · simp
    · exact hb.ne _ (spot_mem hs)
  · obtain ⟨s, hs, rfl⟩ := mem_spot hp
    rw [endB_len] at hs ⊢
    rw [spot_endB hs] at hw
    split at hw
    · have : w = s := by simpa using hw
      omega
    · exact hb.lt _ (spot_mem hs) w hw
theorem endB_F {b : Brd} (hb : GB b) {t g : List Nat} {x : M47.Vec} {s : Nat} (hs : s < b.length) : M47.F (toB (endB b g) (endB_gb hb g)) (tl t) (gl g) x s = M47.F (toB b hb) (tl t) (gl g) x s := by
  unfold M47.F
  split
  · rfl
  · rename_i h
    show (M47.best (spot (endB b g) s).1 ((spot (endB b g) s).2.map x)).map _ = (M47.best (spot b s).1 ((spot b s).2.map x)).map _
    rw [spot_endB hs, if_neg h]
def endG (m : Nat) (t g : List Nat) : List Int := (List.range m).map fun s => if gl g s then 0 else 0 - (tl t s : Int)
theorem endG_get {m : Nat} {t g : List Nat} {s : Nat} (hs : s < m) : gi (endG m t g) s = if gl g s then 0 else 0 - (tl t s : Int) := by
  have : (endG m t g)[s]? = some (if gl g s then 0 else 0 - (tl t s : Int)) := by simp [endG, hs]
  unfold gi List.getD
  rw [this]
  rfl
theorem needK_toll (t k : Nat) : needK (0 - (t : Int)) k = t + k := by unfold needK; omega
theorem capO_le {top : Int} {k : Nat} (h : (k : Int) ≤ top) : capO top (some k) = some k := by
  unfold capO
  exact if_neg (by omega)
theorem stores_eq {b : Brd} (hb : GB b) {t g : List Nat} (ht1 : ∀ s, gl g s = false → s < b.length → 1 ≤ tl t s) (ht2 : ∀ s, gl g s = false → 1 ≤ tl t s) {v v' : List (Option Nat)} (hv : v.length = b.length) (hx : M47.Fix (toB b hb) (tl t) (gl g) (vec v))
    (hL : Lf (endB b g) (endG b.length t g) ((b.length * mostG (endG b.length t g) : Nat) : Int) v') : v' = v := by
  have hl := endB_len b g
  have own : ∀ s, s < b.length → gl g s = false → ∀ y : List (Option Nat), needO (endB b g) (endG b.length t g) y s = M47.F (toB b hb) (tl t) (gl g) (vec y) s := fun s hs hgs y => by
    unfold needO M47.F
    rw [hgs, spot_endB hs, hgs, endG_get hs, hgs]
    show (M47.best (spot b s).1 ((spot b s).2.map (vec y))).map (needK (0 - (tl t s : Int))) = (M47.best (spot b s).1 ((spot b s).2.map (vec y))).map (tl t s + ·)
    congr 1
    funext k
    exact needK_toll _ _
  have h0 : ∀ s, s < b.length → gl g s = true → vec v s = some 0 := fun s hs hgs => by
    have := hx s hs
    unfold M47.F at this
    rw [hgs] at this
    exact this.symm
  have top : ∀ s, s < b.length → gl g s = false → tl t s ≤ mostG (endG b.length t g) := fun s hs hgs => by
    refine (foldl_max_ge _ 0).2 _ (List.mem_map.mpr ⟨0 - (tl t s : Int), ?_, by omega⟩)
    exact List.mem_map.mpr ⟨s, List.mem_range.mpr hs, by rw [hgs]; rfl⟩
  have pre : ∀ s, s < (endB b g).length → M47.ole (GO (endB b g) (endG b.length t g) ((b.length * mostG (endG b.length t g) : Nat) : Int) v s) (vec v s) := fun s hs => by
    rw [hl] at hs
    cases hgs : gl g s with
    | true =>
      rw [h0 s hs hgs]
      have : needO (endB b g) (endG b.length t g) v s = some 0 := by
        unfold needO
        rw [spot_endB hs, hgs, endG_get hs, hgs]
        show (M47.best (spot b s).1 [vec v s]).map (needK 0) = some 0
        rw [h0 s hs hgs]
        cases (spot b s).1 <;> rfl
      unfold GO
      rw [this, capO_le (by omega)]
      exact Nat.le_refl 0
    | false =>
      unfold GO
      rw [own s hs hgs, hx s hs]
      cases e : vec v s with
      | none => exact M47.ole_none _
      | some k =>
        have := hx.top ht2 (T := mostG (endG b.length t g)) top hs e
        have this : k ≤ b.length * mostG (endG b.length t g) := this
        rw [capO_le (by omega)]
        exact Nat.le_refl k
  have le1 : M47.Le (toB b hb) (vec v') (vec v) := fun s hs => hL.least v pre s (by rw [hl]; exact hs)
  have le2 : M47.Le (toB b hb) (vec v) (vec v') := by
    refine M47.pre_post ht2 hx.post fun s hs => ?_
    have hs : s < b.length := hs
    cases hgs : gl g s with
    | true =>
      unfold M47.F
      rw [hgs]
      cases vec v' s with
      | none => trivial
      | some k => exact Nat.zero_le k
    | false =>
      have e := hL.fix s (by rw [hl]; exact hs)
      unfold GO at e
      rw [own s hs hgs] at e
      rcases capO_val ((b.length * mostG (endG b.length t g) : Nat) : Int) (M47.F (toB b hb) (tl t) (gl g) (vec v') s) with c | c
      · rw [c] at e; rw [e]; exact M47.ole_none _
      · rw [c] at e; rw [e]; exact M47.ole_refl _
  exact vec_ext (by rw [hL.len, hl]) hv fun s hs => M47.ole_antisymm (le1 s hs) (le2 s hs)
end Wg
set_option Elab.async false
set_option linter.all false
set_option maxRecDepth 100000
set_option maxHeartbeats 4000000
/-! Wg: the law of tolls and stores, walked. Plain Lean. -/
namespace Wg
theorem all2_get {α : Type} {R : α → Nat → Prop} {l : List α} {ks : List Nat} (h : All2 R l ks) {s : Nat} {a : α} (ha : l[s]? = some a) : R a (tl ks s) := by
  have hl := h.length
  have hs : s < ks.length := by rw [← hl]; exact (List.getElem?_eq_some_iff.mp ha).1
  have : ks[s]? = some (tl ks s) := by simp [tl, List.getD, hs]
  exact h.get ha this
theorem zip_get {m : Nat} {v w : List (Option Nat)} (hv : v.length = m) (hw : w.length = m) {i : Nat} {d : D} (h : (List.zipWith (fun a b => D.tup [a, b]) (v.map oD) (w.map oD))[i]? = some d) : i < m ∧ d = .tup [oD (vec v i), oD (vec w i)] := by
  have hi : i < m := by
    have := (List.getElem?_eq_some_iff.mp h).1
    simp at this
    omega
  refine ⟨hi, ?_⟩
  have e : (List.zipWith (fun a b => D.tup [a, b]) (v.map oD) (w.map oD))[i]? = some (.tup [oD (vec v i), oD (vec w i)]) := by
    rw [List.getElem?_zipWith]
    simp [vec, List.getD, show i < v.length by omega, show i < w.length by omega]
  rw [e] at h
  exact (Option.some.inj h).symm
/-- sorted(set(..)) of numbers -/
theorem sisL_nD {l : List Nat} (hl : l.length < 64) {Q : List Int → Prop} (q : ∀ (g : List Nat) (ns : List Int), ns.map D.int = nD g → g.Pairwise (· < ·) → (∀ s, s ∈ g ↔ s ∈ l) → Q ns) : sisL (nD l) Q := by
  have e : nD l = (l.map fun (n : Nat) => (n : Int)).map D.int := by unfold nD; rw [List.map_map]; rfl
  rw [e]
  refine sisL_map (by simpa using hl) ?_
  have hs := sorted_sortSet (l.map fun (n : Nat) => (n : Int))
  have hm : ∀ y, y ∈ sortSet (l.map fun (n : Nat) => (n : Int)) ↔ ∃ k ∈ l, (k : Int) = y := fun y => by rw [mem_sortSet, List.mem_map]
  generalize hns : sortSet (l.map fun (n : Nat) => (n : Int)) = ns at *
  have hpos : ∀ y ∈ ns, ((y.toNat : Nat) : Int) = y := fun y hy => by
    obtain ⟨k, _, rfl⟩ := (hm y).mp hy
    omega
  refine q (ns.map Int.toNat) ns ?_ ?_ fun s => ?_
  · unfold nD
    rw [List.map_map]
    refine List.map_congr_left fun y hy => ?_
    show D.int y = D.int ((y.toNat : Nat) : Int)
    rw [hpos y hy]
  · rw [List.pairwise_map]
    refine hs.imp_of_mem fun {a b} ha hb h => ?_
    have := hpos a ha
    have := hpos b hb
    omega
  · rw [List.mem_map]
    constructor
    · rintro ⟨y, hy, rfl⟩
      obtain ⟨k, hk, rfl⟩ := (hm y).mp hy
      exact hk
    · intro h
      exact ⟨(s : Int), (hm _).mpr ⟨s, h, rfl⟩, by omega⟩
theorem vD_eqv (v w : List (Option Nat)) : (vD v).eqv (vD w) = decide (v = w) := eqvs_oD v w
theorem vD_ne {v w : List (Option Nat)} (h : v = w) {A : Prop} (q : (!(vD v).eqv (vD w)) = true) : A := by
  rw [vD_eqv, decide_eq_true h] at q
  cases q
theorem fix_congr {B : M47.Bd} {t t' : Nat → Nat} {g : Nat → Bool} {x : M47.Vec} (h : ∀ s, s < B.m → t s = t' s) (hx : M47.Fix B t g x) : M47.Fix B t' g x := fun s hs => by
  have := hx s hs
  unfold M47.F at this ⊢
  rw [← h s hs]
  exact this
theorem law47 {P : Prog} (hP : Has47 P) (h6 : P.fns 6 = some f_law_board) (h27 : P.fns 27 = some f_law_shuffled) (h24 : P.fns 24 = some f_law_set) :
    ∃ rest, f_law_k47 = ⟨16, 1, .c (.asg (.nm 1) (.call 1 (.c (.var 0) .n))) rest⟩ ∧ wSs ⟨P.G, run P 21⟩ rest [.un, .sh .pool, .un, .un, .un, .un, .un, .un, .un, .un, .un, .un, .un, .un, .un, .un] ⟨fun _ => False, fun d _ => d = .bl true, fun _ => False, fun _ => False⟩ := by
  refine ⟨_, rfl, ?_⟩
  ((repeat ((conv => whnf); refine And.intro (by first | exact trivial | exact rfl | omega | assumption | decide | exact pls_nD _ _) ?_)); (conv => whnf))
  refine board_ok (n := 19) h6 h27 5 (by decide) (by decide) fun b hB => ?_
  have hb := hB.gb (by decide)
  have hpos := hB.pos
  have hlen := hB.len
  have hbl : (b.map spD).length = b.length := List.length_map ..
  (try simp only [List.set_cons_succ, List.set_cons_zero, freezeI, wipeE, backE, freeze, freezes, behind, List.getElem?_cons_succ, List.getElem?_cons_zero, Slot.val, Option.getD_some, ite_self])
  ((repeat ((conv => whnf); refine And.intro (by first | exact trivial | exact rfl | omega | assumption | decide | exact pls_nD _ _) ?_)); (conv => whnf))
  rw [hbl]
  refine set_ok h24 b.length (by omega) fun g hg => ?_
  (try simp only [List.set_cons_succ, List.set_cons_zero, freezeI, wipeE, backE, freeze, freezes, behind, List.getElem?_cons_succ, List.getElem?_cons_zero, Slot.val, Option.getD_some, ite_self])
  ((repeat ((conv => whnf); refine And.intro (by first | exact trivial | exact rfl | omega | assumption | decide | exact pls_nD _ _) ?_)); (conv => whnf))
  refine And.intro (by unfold LB; omega) (And.intro (by omega) ?_)
  rw [rangeD_nat]
  refine lcW_nums0 (fun (n : Nat) => D.int (n : Int)) (fun _ t => 1 ≤ t ∧ t ≤ 9) (List.range b.length) (fun a ha K hK => ?_) fun t ht => ?_
  · ((repeat ((conv => whnf); refine And.intro (by first | exact trivial | exact rfl | omega | assumption | decide | exact pls_nD _ _) ?_)); (conv => whnf))
    intro v h1 h2
    (try simp only [List.set_cons_succ, List.set_cons_zero, freezeI, wipeE, backE, freeze, freezes, behind, List.getElem?_cons_succ, List.getElem?_cons_zero, Slot.val, Option.getD_some, ite_self])
    have := hK (1 + v.toNat) (by omega)
    have e : ((1 + v.toNat : Nat) : Int) = 1 + v := by omega
    rw [e] at this
    ((repeat ((conv => whnf); refine And.intro (by first | exact trivial | exact rfl | omega | assumption | decide | exact pls_nD _ _) ?_)); (conv => whnf))
    exact this
  (try simp only [List.set_cons_succ, List.set_cons_zero, freezeI, wipeE, backE, freeze, freezes, behind, List.getElem?_cons_succ, List.getElem?_cons_zero, Slot.val, Option.getD_some, ite_self])
  ((repeat ((conv => whnf); refine And.intro (by first | exact trivial | exact rfl | omega | assumption | decide | exact pls_nD _ _) ?_)); (conv => whnf))
  have htl : t.length = b.length := by have := ht.length; simpa using this.symm
  have ht1 : ∀ s, 1 ≤ tl t s := fun s => by
    by_cases c : s < b.length
    · exact (all2_get ht (a := s) (by simp [c])).1
    · simp [tl, List.getD, show t[s]? = none from List.getElem?_eq_none (by omega)]
  refine least_tolls_ok hP (n := 18) hb htl (fun s _ => ht1 s) fun v hv hst => ?_
  have hx := fix_of hst
  (try simp only [List.set_cons_succ, List.set_cons_zero, freezeI, wipeE, backE, freeze, freezes, behind, List.getElem?_cons_succ, List.getElem?_cons_zero, Slot.val, Option.getD_some, ite_self])
  ((repeat ((conv => whnf); refine And.intro (by first | exact trivial | exact rfl | omega | assumption | decide | exact pls_nD _ _) ?_)); (conv => whnf))
  refine And.intro (by unfold LB; omega) (And.intro (by omega) ?_)
  rw [rangeD_nat]
  refine lcW_onMap (fun (n : Nat) => D.int (n : Int)) (fun s => spD (if gl g s then ((spot b s).1, [s]) else spot b s)) (List.range b.length) (fun s hs K hK => ?_) ?_
  · have hs := List.mem_range.mp hs
    ((repeat ((conv => whnf); refine And.intro (by first | exact trivial | exact rfl | omega | assumption | decide | exact pls_nD _ _) ?_)); (conv => whnf))
    rw [any_nD]
    (try simp only [List.set_cons_succ, List.set_cons_zero, freezeI, wipeE, backE, freeze, freezes, behind, List.getElem?_cons_succ, List.getElem?_cons_zero, Slot.val, Option.getD_some, ite_self])
    refine bif_by (fun h => ?_) (fun h => ?_)
    · have h : gl g s = true := h
      ((repeat ((conv => whnf); refine And.intro (by first | exact trivial | exact rfl | omega | assumption | decide | exact pls_nD _ _) ?_)); (conv => whnf))
      refine idxL_nat (d := spD (spot b s)) (by simp [spot_get hs]) ?_
      ((repeat ((conv => whnf); refine And.intro (by first | exact trivial | exact rfl | omega | assumption | decide | exact pls_nD _ _) ?_)); (conv => whnf))
      rw [h] at hK
      exact hK
    · have h : gl g s = false := h
      ((repeat ((conv => whnf); refine And.intro (by first | exact trivial | exact rfl | omega | assumption | decide | exact pls_nD _ _) ?_)); (conv => whnf))
      refine idxL_nat (d := spD (spot b s)) (by simp [spot_get hs]) ?_
      ((repeat ((conv => whnf); refine And.intro (by first | exact trivial | exact rfl | omega | assumption | decide | exact pls_nD _ _) ?_)); (conv => whnf))
      rw [h] at hK
      exact hK
  have e1 : (List.range b.length).map (fun s => spD (if gl g s then ((spot b s).1, [s]) else spot b s)) = (endB b g).map spD := by
    unfold endB
    rw [List.map_map]
    rfl
  rw [e1]
  (try simp only [List.set_cons_succ, List.set_cons_zero, freezeI, wipeE, backE, freeze, freezes, behind, List.getElem?_cons_succ, List.getElem?_cons_zero, Slot.val, Option.getD_some, ite_self])
  ((repeat ((conv => whnf); refine And.intro (by first | exact trivial | exact rfl | omega | assumption | decide | exact pls_nD _ _) ?_)); (conv => whnf))
  refine And.intro (by unfold LB; omega) (And.intro (by omega) ?_)
  rw [rangeD_nat]
  refine lcW_onMap (fun (n : Nat) => D.int (n : Int)) (fun s => .int (if gl g s then 0 else 0 - (tl t s : Int))) (List.range b.length) (fun s hs K hK => ?_) ?_
  · have hs := List.mem_range.mp hs
    ((repeat ((conv => whnf); refine And.intro (by first | exact trivial | exact rfl | omega | assumption | decide | exact pls_nD _ _) ?_)); (conv => whnf))
    rw [any_nD]
    (try simp only [List.set_cons_succ, List.set_cons_zero, freezeI, wipeE, backE, freeze, freezes, behind, List.getElem?_cons_succ, List.getElem?_cons_zero, Slot.val, Option.getD_some, ite_self])
    refine bif_by (fun h => ?_) (fun h => ?_)
    · have h : gl g s = true := h
      ((repeat ((conv => whnf); refine And.intro (by first | exact trivial | exact rfl | omega | assumption | decide | exact pls_nD _ _) ?_)); (conv => whnf))
      rw [h] at hK
      exact hK
    · have h : gl g s = false := h
      ((repeat ((conv => whnf); refine And.intro (by first | exact trivial | exact rfl | omega | assumption | decide | exact pls_nD _ _) ?_)); (conv => whnf))
      refine idxL_nat (d := .int (tl t s : Nat)) (nD_get (by simp [tl, List.getD, show s < t.length by omega])) ?_
      ((repeat ((conv => whnf); refine And.intro (by first | exact trivial | exact rfl | omega | assumption | decide | exact pls_nD _ _) ?_)); (conv => whnf))
      rw [h] at hK
      exact hK
  have e2 : (List.range b.length).map (fun s => D.int (if gl g s then 0 else 0 - (tl t s : Int))) = iD (endG b.length t g) := by
    unfold endG iD
    rw [List.map_map]
    rfl
  rw [e2]
  (try simp only [List.set_cons_succ, List.set_cons_zero, freezeI, wipeE, backE, freeze, freezes, behind, List.getElem?_cons_succ, List.getElem?_cons_zero, Slot.val, Option.getD_some, ite_self])
  ((repeat ((conv => whnf); refine And.intro (by first | exact trivial | exact rfl | omega | assumption | decide | exact pls_nD _ _) ?_)); (conv => whnf))
  have heb := endB_gb hb g
  have hel := endB_len b g
  have hgl : (endG b.length t g).length = (endB b g).length := by rw [hel]; simp [endG]
  refine least_stores_ok (n := 18) hP.stores hP.risen hP.need heb (by omega) hgl fun v1 hv1 => ?_
  rw [hel] at hv1
  have ev1 := stores_eq hb (fun s _ _ => ht1 s) (fun s _ => ht1 s) hv hx hv1
  subst ev1
  (try simp only [List.set_cons_succ, List.set_cons_zero, freezeI, wipeE, backE, freeze, freezes, behind, List.getElem?_cons_succ, List.getElem?_cons_zero, Slot.val, Option.getD_some, ite_self])
  have hpl := pl_vD v1
  ((repeat ((conv => whnf); refine And.intro (by first | exact trivial | exact rfl | omega | assumption | decide | exact pls_nD _ _) ?_)); (conv => whnf))
  refine bif_by (fun h => vD_ne rfl h) (fun _ => ?_)
  ((repeat ((conv => whnf); refine And.intro (by first | exact trivial | exact rfl | omega | assumption | decide | exact pls_nD _ _) ?_)); (conv => whnf))
  refine least_tolls_ok hP (n := 18) heb (by omega) (fun s _ => ht1 s) fun v2 hv2 hst2 => ?_
  have ev2 : v2 = v1 := vec_ext (by omega) hv fun s hs => M47.Fix.uniq (fun s _ => ht1 s) (fun s hs => by have hs : s < b.length := hs; rw [← endB_F hb hs]; exact fix_of hst2 s (by show s < (endB b g).length; omega)) hx s hs
  subst ev2
  (try simp only [List.set_cons_succ, List.set_cons_zero, freezeI, wipeE, backE, freeze, freezes, behind, List.getElem?_cons_succ, List.getElem?_cons_zero, Slot.val, Option.getD_some, ite_self])
  ((repeat ((conv => whnf); refine And.intro (by first | exact trivial | exact rfl | omega | assumption | decide | exact pls_nD _ _) ?_)); (conv => whnf))
  refine bif_by (fun h => vD_ne rfl h) (fun _ => ?_)
  ((repeat ((conv => whnf); refine And.intro (by first | exact trivial | exact rfl | omega | assumption | decide | exact pls_nD _ _) ?_)); (conv => whnf))
  have ho1 : (List.replicate (b.length : Int).toNat [D.int 1]).flatten = nD (List.replicate b.length 1) := by
    have : ((b.length : Int)).toNat = b.length := by omega
    rw [this]
    simp [nD]
  (try simp only [List.set_cons_succ, List.set_cons_zero, freezeI, wipeE, backE, freeze, freezes, behind, List.getElem?_cons_succ, List.getElem?_cons_zero, Slot.val, Option.getD_some, ite_self])
  rw [ho1]
  have one1 : ∀ s, tl (List.replicate b.length 1) s = 1 := fun s => by
    by_cases c : s < b.length
    · simp [tl, List.getD, c]
    · simp [tl, List.getD, c]
  refine least_tolls_ok hP (n := 18) hb (by simp) (fun s _ => by rw [one1 s]; exact Nat.le_refl 1) fun v3 hv3 hst3 => ?_
  (try simp only [List.set_cons_succ, List.set_cons_zero, freezeI, wipeE, backE, freeze, freezes, behind, List.getElem?_cons_succ, List.getElem?_cons_zero, Slot.val, Option.getD_some, ite_self])
  ((repeat ((conv => whnf); refine And.intro (by first | exact trivial | exact rfl | omega | assumption | decide | exact pls_nD _ _) ?_)); (conv => whnf))
  refine run_of (n := 20) hP.steps (by decide) (drawing_steps_ok _ hb true fun v4 hv4 hf4 => ?_)
  have ev4 : v3 = v4 := by
    rw [toP_true] at hf4
    exact vec_ext hv3 hv4 fun s hs => M47.Fix.uniq (fun s _ => Nat.le_refl 1) (fix_congr (fun s _ => one1 s) (fix_of hst3)) hf4 s hs
  subst ev4
  have hpl3 := pl_vD v3
  (try simp only [List.set_cons_succ, List.set_cons_zero, freezeI, wipeE, backE, freeze, freezes, behind, List.getElem?_cons_succ, List.getElem?_cons_zero, Slot.val, Option.getD_some, ite_self])
  ((repeat ((conv => whnf); refine And.intro (by first | exact trivial | exact rfl | omega | assumption | decide | exact pls_nD _ _) ?_)); (conv => whnf))
  refine bif_by (fun h => vD_ne rfl h) (fun _ => ?_)
  ((repeat ((conv => whnf); refine And.intro (by first | exact trivial | exact rfl | omega | assumption | decide | exact pls_nD _ _) ?_)); (conv => whnf))
  refine lcW_nums0 (fun (n : Nat) => D.int (n : Int)) (fun x t => x ≤ t) t (fun a ha K hK => ?_) fun t2 ht2 => ?_
  · ((repeat ((conv => whnf); refine And.intro (by first | exact trivial | exact rfl | omega | assumption | decide | exact pls_nD _ _) ?_)); (conv => whnf))
    intro w h1 h2
    (try simp only [List.set_cons_succ, List.set_cons_zero, freezeI, wipeE, backE, freeze, freezes, behind, List.getElem?_cons_succ, List.getElem?_cons_zero, Slot.val, Option.getD_some, ite_self])
    have := hK (a + w.toNat) (by omega)
    have e : ((a + w.toNat : Nat) : Int) = (a : Int) + w := by omega
    rw [e] at this
    ((repeat ((conv => whnf); refine And.intro (by first | exact trivial | exact rfl | omega | assumption | decide | exact pls_nD _ _) ?_)); (conv => whnf))
    exact this
  (try simp only [List.set_cons_succ, List.set_cons_zero, freezeI, wipeE, backE, freeze, freezes, behind, List.getElem?_cons_succ, List.getElem?_cons_zero, Slot.val, Option.getD_some, ite_self])
  ((repeat ((conv => whnf); refine And.intro (by first | exact trivial | exact rfl | omega | assumption | decide | exact pls_nD _ _) ?_)); (conv => whnf))
  have ht2l : t2.length = b.length := by have := ht2.length; omega
  have ht2m : ∀ s, s < b.length → tl t s ≤ tl t2 s := fun s hs => all2_get ht2 (by simp [tl, List.getD, show s < t.length by omega])
  have ht21 : ∀ s, 1 ≤ tl t2 s := fun s => by
    by_cases c : s < b.length
    · have := ht2m s c
      have := ht1 s
      omega
    · simp [tl, List.getD, show t2[s]? = none from List.getElem?_eq_none (by omega)]
  refine least_tolls_ok hP (n := 18) hb ht2l (fun s _ => ht21 s) fun v5 hv5 hst5 => ?_
  have hx5 := fix_of hst5
  have le5 : ∀ s, s < b.length → M47.ole (vec v2 s) (vec v5 s) := M47.Fix.tolls (fun s _ => ht1 s) ht2m hx hx5
  have fin5 : ∀ s k, s < b.length → vec v2 s = some k → (vec v5 s).isSome = true := fun s k hs e => M47.Fix.finite (fun s _ => ht1 s) hx hx5 k s hs e
  (try simp only [List.set_cons_succ, List.set_cons_zero, freezeI, wipeE, backE, freeze, freezes, behind, List.getElem?_cons_succ, List.getElem?_cons_zero, Slot.val, Option.getD_some, ite_self])
  ((repeat ((conv => whnf); refine And.intro (by first | exact trivial | exact rfl | omega | assumption | decide | exact pls_nD _ _) ?_)); (conv => whnf))
  (try simp only [List.set_cons_succ, List.set_cons_zero, freezeI, wipeE, backE, freeze, freezes, behind, List.getElem?_cons_succ, List.getElem?_cons_zero, Slot.val, Option.getD_some, ite_self])
  refine foW_inv (I := fun i ρ => ∃ s10 s11, ρ = [.un, .sh .pool, .sh (bD b), .sh (.int (b.length : Int)), .sh (.tup (nD g)), .sh (.tup (nD t)), .sh (vD v2), .sh (bD (endB b g)), .sh (.tup (iD (endG b.length t g))), .sh (.tup (nD t2)), s10, s11, .un, .un, .un, .un]) ⟨_, _, rfl⟩ ?_ ?_
  · rintro i d ρ K hd ⟨s10, s11, rfl⟩ hK
    obtain ⟨hi, rfl⟩ := zip_get hv hv5 hd
    have h1 := le5 i hi
    have h2 := fin5 i
    ((repeat ((conv => whnf); refine And.intro (by first | exact trivial | exact rfl | omega | assumption | decide | exact pls_nD _ _) ?_)); (conv => whnf))
    cases ea : vec v2 i with
    | none =>
      rw [ea] at h1
      cases eb : vec v5 i with
      | none =>
        ((repeat ((conv => whnf); refine And.intro (by first | exact trivial | exact rfl | omega | assumption | decide | exact pls_nD _ _) ?_)); (conv => whnf))
        exact hK _ ⟨_, _, rfl⟩
      | some y => rw [eb] at h1; exact h1.elim
    | some x =>
      have h3 := h2 x hi ea
      cases eb : vec v5 i with
      | none => rw [eb] at h3; cases h3
      | some y =>
        rw [ea, eb] at h1
        have h1 : x ≤ y := h1
        ((repeat ((conv => whnf); refine And.intro (by first | exact trivial | exact rfl | omega | assumption | decide | exact pls_nD _ _) ?_)); (conv => whnf))
        refine bif_by (fun h => absurd (lt_natT h) (by omega)) (fun _ => ?_)
        exact hK _ ⟨_, _, rfl⟩
  rintro ρ ⟨s10, s11, rfl⟩
  ((repeat ((conv => whnf); refine And.intro (by first | exact trivial | exact rfl | omega | assumption | decide | exact pls_nD _ _) ?_)); (conv => whnf))
  intro k0 hk0 hk1
  obtain ⟨k, hk⟩ : ∃ k : Nat, 2 + k0 = (k : Int) := ⟨(2 + k0).toNat, by omega⟩
  have hkk : 1 ≤ k ∧ k ≤ 4 := by omega
  (try simp only [List.set_cons_succ, List.set_cons_zero, freezeI, wipeE, backE, freeze, freezes, behind, List.getElem?_cons_succ, List.getElem?_cons_zero, Slot.val, Option.getD_some, ite_self])
  ((repeat ((conv => whnf); refine And.intro (by first | exact trivial | exact rfl | omega | assumption | decide | exact pls_nD _ _) ?_)); (conv => whnf))
  rw [hk]
  refine lcW_onMap (fun (n : Nat) => D.int (n : Int)) (fun x => .int ((k * x : Nat) : Int)) t (fun x hx2 K hK => ?_) ?_
  · ((repeat ((conv => whnf); refine And.intro (by first | exact trivial | exact rfl | omega | assumption | decide | exact pls_nD _ _) ?_)); (conv => whnf))
    refine And.intro (.inl (.inl (by omega))) ?_
    have e : ((k * x : Nat) : Int) = (k : Int) * (x : Int) := by simp
    rw [e] at hK
    exact hK
  have e3 : t.map (fun x => D.int ((k * x : Nat) : Int)) = nD (t.map (k * ·)) := by unfold nD; rw [List.map_map]; rfl
  rw [e3]
  (try simp only [List.set_cons_succ, List.set_cons_zero, freezeI, wipeE, backE, freeze, freezes, behind, List.getElem?_cons_succ, List.getElem?_cons_zero, Slot.val, Option.getD_some, ite_self])
  ((repeat ((conv => whnf); refine And.intro (by first | exact trivial | exact rfl | omega | assumption | decide | exact pls_nD _ _) ?_)); (conv => whnf))
  have tkm : ∀ s, s < b.length → tl (t.map (k * ·)) s = k * tl t s := fun s hs => by simp [tl, List.getD, show s < t.length by omega]
  have tk1 : ∀ s, 1 ≤ tl (t.map (k * ·)) s := fun s => by
    by_cases c : s < b.length
    · rw [tkm s c]
      have := ht1 s
      exact Nat.le_trans (Nat.mul_le_mul hkk.1 this) (Nat.le_refl _)
    · simp [tl, List.getD, show t[s]? = none from List.getElem?_eq_none (by omega)]
  refine least_tolls_ok hP (n := 18) hb (by simpa using htl) (fun s _ => tk1 s) fun v6 hv6 hst6 => ?_
  have hx6 := fix_of hst6
  have ev6 : v6 = v2.map fun o => o.map (k * ·) := vec_ext hv6 (by simpa using hv) fun s hs => by
    have h1 := M47.Fix.scale k hkk.1 hx
    have h2 := M47.Fix.uniq (fun s _ => tk1 s) hx6 (fix_congr (fun s hs => (tkm s hs).symm) h1) s hs
    rw [h2]
    simp [vec, List.getD, show s < v2.length by omega]
  (try simp only [List.set_cons_succ, List.set_cons_zero, freezeI, wipeE, backE, freeze, freezes, behind, List.getElem?_cons_succ, List.getElem?_cons_zero, Slot.val, Option.getD_some, ite_self])
  ((repeat ((conv => whnf); refine And.intro (by first | exact trivial | exact rfl | omega | assumption | decide | exact pls_nD _ _) ?_)); (conv => whnf))
  refine lcW_onMap oD (fun o => oD (o.map (k * ·))) v2 (fun o ho K hK => ?_) ?_
  · cases o with
    | none => ((repeat ((conv => whnf); refine And.intro (by first | exact trivial | exact rfl | omega | assumption | decide | exact pls_nD _ _) ?_)); (conv => whnf)); exact hK
    | some x =>
      ((repeat ((conv => whnf); refine And.intro (by first | exact trivial | exact rfl | omega | assumption | decide | exact pls_nD _ _) ?_)); (conv => whnf))
      refine And.intro (.inl (.inl (by omega))) ?_
      have e : oD ((some x).map (k * ·)) = .int ((k : Int) * (x : Int)) := by show D.int ((k * x : Nat) : Int) = _; simp
      rw [e] at hK
      exact hK
  have e4 : v2.map (fun o => oD (o.map (k * ·))) = v6.map oD := by rw [ev6, List.map_map]; rfl
  rw [e4]
  have hpl6 := pl_vD v6
  (try simp only [List.set_cons_succ, List.set_cons_zero, freezeI, wipeE, backE, freeze, freezes, behind, List.getElem?_cons_succ, List.getElem?_cons_zero, Slot.val, Option.getD_some, ite_self])
  ((repeat ((conv => whnf); refine And.intro (by first | exact trivial | exact rfl | omega | assumption | decide | exact pls_nD _ _) ?_)); (conv => whnf))
  refine bif_by (fun h => vD_ne rfl h) (fun _ => ?_)
  ((repeat ((conv => whnf); refine And.intro (by first | exact trivial | exact rfl | omega | assumption | decide | exact pls_nD _ _) ?_)); (conv => whnf))
  intro w0 hw0 hw1
  obtain ⟨w, rfl⟩ : ∃ w : Nat, w0 = (w : Int) := ⟨w0.toNat, by omega⟩
  (try simp only [List.set_cons_succ, List.set_cons_zero, freezeI, wipeE, backE, freeze, freezes, behind, List.getElem?_cons_succ, List.getElem?_cons_zero, Slot.val, Option.getD_some, ite_self])
  have hgl2 := hg.len
  ((repeat ((conv => whnf); refine And.intro (by first | exact trivial | exact rfl | omega | assumption | decide | exact pls_nD _ _) ?_)); (conv => whnf))
  refine And.intro (by simp [nD, LB]; omega) ?_
  ((repeat ((conv => whnf); refine And.intro (by first | exact trivial | exact rfl | omega | assumption | decide | exact pls_nD _ _) ?_)); (conv => whnf))
  have e5 : nD g ++ [D.int (w : Int)] = nD (g ++ [w]) := by simp [nD]
  rw [e5]
  refine sisL_nD (l := g ++ [w]) (by rw [List.length_append]; show g.length + 1 < 64; omega) fun g2 ns hns hg2 hmem => ?_
  rw [hns]
  (try simp only [List.set_cons_succ, List.set_cons_zero, freezeI, wipeE, backE, freeze, freezes, behind, List.getElem?_cons_succ, List.getElem?_cons_zero, Slot.val, Option.getD_some, ite_self])
  ((repeat ((conv => whnf); refine And.intro (by first | exact trivial | exact rfl | omega | assumption | decide | exact pls_nD _ _) ?_)); (conv => whnf))
  refine least_tolls_ok hP (n := 18) hb htl (fun s _ => ht1 s) fun v7 hv7 hst7 => ?_
  have hx7 := fix_of hst7
  have le7 : ∀ s, s < b.length → M47.ole (vec v7 s) (vec v2 s) := M47.Fix.wider (fun s _ => ht1 s) (fun s h => by
    have h : s ∈ g := of_decide_eq_true h
    exact decide_eq_true ((hmem s).mpr (List.mem_append_left _ h))) hx hx7
  (try simp only [List.set_cons_succ, List.set_cons_zero, freezeI, wipeE, backE, freeze, freezes, behind, List.getElem?_cons_succ, List.getElem?_cons_zero, Slot.val, Option.getD_some, ite_self])
  ((repeat ((conv => whnf); refine And.intro (by first | exact trivial | exact rfl | omega | assumption | decide | exact pls_nD _ _) ?_)); (conv => whnf))
  (try simp only [List.set_cons_succ, List.set_cons_zero, freezeI, wipeE, backE, freeze, freezes, behind, List.getElem?_cons_succ, List.getElem?_cons_zero, Slot.val, Option.getD_some, ite_self])
  refine foW_inv (I := fun i ρ => ∃ s10 s11, ρ = [.un, .sh .pool, .sh (bD b), .sh (.int (b.length : Int)), .sh (.tup (nD g)), .sh (.tup (nD t)), .sh (vD v2), .sh (bD (endB b g)), .sh (.tup (iD (endG b.length t g))), .sh (.tup (nD t2)), s10, s11, .sh (.int (k : Int)), .sh (.tup (nD g2)), .un, .un]) ⟨_, _, rfl⟩ ?_ ?_
  · rintro i d ρ K hd ⟨s10, s11, rfl⟩ hK
    obtain ⟨hi, rfl⟩ := zip_get hv hv7 hd
    have h1 := le7 i hi
    ((repeat ((conv => whnf); refine And.intro (by first | exact trivial | exact rfl | omega | assumption | decide | exact pls_nD _ _) ?_)); (conv => whnf))
    cases ea : vec v2 i with
    | none =>
      ((repeat ((conv => whnf); refine And.intro (by first | exact trivial | exact rfl | omega | assumption | decide | exact pls_nD _ _) ?_)); (conv => whnf))
      exact hK _ ⟨_, _, rfl⟩
    | some x =>
      rw [ea] at h1
      obtain ⟨y, eb, hy⟩ := M47.ole_some h1
      rw [eb]
      ((repeat ((conv => whnf); refine And.intro (by first | exact trivial | exact rfl | omega | assumption | decide | exact pls_nD _ _) ?_)); (conv => whnf))
      refine bif_by (fun h => absurd (lt_natT h) (by omega)) (fun _ => ?_)
      exact hK _ ⟨_, _, rfl⟩
  rintro ρ ⟨s10, s11, rfl⟩
  ((repeat ((conv => whnf); refine And.intro (by first | exact trivial | exact rfl | omega | assumption | decide | exact pls_nD _ _) ?_)); (conv => whnf))
  refine And.intro (by unfold LB; omega) (And.intro (by omega) ?_)
  rw [rangeD_nat]
  refine lcW_on (fun (n : Nat) => D.int (n : Int)) (fun s => if (vec v2 s).isSome then some (.int (s : Int)) else none) (List.range b.length) (fun s hs K hK => ?_) ?_
  · have hs := List.mem_range.mp hs
    ((repeat ((conv => whnf); refine And.intro (by first | exact trivial | exact rfl | omega | assumption | decide | exact pls_nD _ _) ?_)); (conv => whnf))
    refine idxL_nat (d := oD (vec v2 s)) (by simp [vec, List.getD, show s < v2.length by omega]) ?_
    cases e : vec v2 s with
    | none => ((repeat ((conv => whnf); refine And.intro (by first | exact trivial | exact rfl | omega | assumption | decide | exact pls_nD _ _) ?_)); (conv => whnf)); rw [e] at hK; exact hK
    | some k => ((repeat ((conv => whnf); refine And.intro (by first | exact trivial | exact rfl | omega | assumption | decide | exact pls_nD _ _) ?_)); (conv => whnf)); rw [e] at hK; exact hK
  rw [filterMap_if (fun s => (vec v2 s).isSome) (fun s => D.int (s : Int))]
  (try simp only [List.set_cons_succ, List.set_cons_zero, freezeI, wipeE, backE, freeze, freezes, behind, List.getElem?_cons_succ, List.getElem?_cons_zero, Slot.val, Option.getD_some, ite_self])
  ((repeat ((conv => whnf); refine And.intro (by first | exact trivial | exact rfl | omega | assumption | decide | exact pls_nD _ _) ?_)); (conv => whnf))
  refine drawn_in_ok (n := 19) hP.drawn hP.steps hb true fun v8 hv8 hf8 => ?_
  rw [toP_true] at hf8
  have e6 : (List.range b.length).filter (fun s => (vec v2 s).isSome) = (List.range b.length).filter fun s => (vec v8 s).isSome := by
    refine List.filter_congr fun s hs => ?_
    have hs := List.mem_range.mp hs
    cases ea : vec v2 s with
    | none =>
      cases eb : vec v8 s with
      | none => rfl
      | some y =>
        have := M47.Fix.finite (fun s _ => Nat.le_refl 1) hf8 hx y s hs eb
        rw [ea] at this
        cases this
    | some x =>
      have := M47.Fix.finite (fun s _ => ht1 s) hx hf8 x s hs ea
      rw [this]; rfl
  (try simp only [List.set_cons_succ, List.set_cons_zero, freezeI, wipeE, backE, freeze, freezes, behind, List.getElem?_cons_succ, List.getElem?_cons_zero, Slot.val, Option.getD_some, ite_self])
  have e7 : ((List.range b.length).filter fun s => (vec v2 s).isSome).map (fun (s : Nat) => D.int (s : Int)) = nD ((List.range b.length).filter fun s => (vec v8 s).isSome) := by rw [e6]; rfl
  rw [e7]
  ((repeat ((conv => whnf); refine And.intro (by first | exact trivial | exact rfl | omega | assumption | decide | exact pls_nD _ _) ?_)); (conv => whnf))
  show D.bl (D.eqvs (nD ((List.range b.length).filter fun s => (vec v8 s).isSome)) (nD ((List.range b.length).filter fun s => (vec v8 s).isSome))) = .bl true
  rw [eqvs_nD, decide_eq_true rfl]
end Wg
open PySem PySem.W PyProof.Rows
theorem PySem.Challenge.cw_wishgames_k47_whole_tolls_and_stores_holds : PySem.Challenge.rw_wishgames_k47_whole_tolls_and_stores.Holds := by
  obtain ⟨rest, e, w⟩ := Wg.law47 (P := WgHead.Pg) ⟨rfl, rfl, rfl, rfl, rfl, rfl, rfl, rfl⟩ rfl rfl rfl
  exact WgHead.holds (k := 14) (rest := rest) e w

