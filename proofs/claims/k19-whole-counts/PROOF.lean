import PyProof.Rows.All
import Wide.All
import OpenK.AllK
import Wide.FinOn
import HandS.ForMost
import HandS.Walk
import KE.DatumOrd
import KE.SortData
import KE.GoesMore
import KE.GoesEnum
import KE.KTupSum
import HandS.SortOrd
import KE.KDictSum
import KE.KDictCopyH
import KE.KDictDisplayH
import KE.KDictOf
import HandS.IsInst
import HandS.Defaults
import HandS.NoneIn
import HandS.TupAny
import HandS.Style
import PySem.Challenge.RW_fivebases_k19_whole_counts_by_pairs
set_option Elab.async false
set_option linter.all false
set_option maxRecDepth 100000
namespace K19
abbrev Pt := List Int
def partAt (a : Pt) (i : Nat) : Int := a.getD i 0
def downTo (hi lo : Int) : List Int := (List.range (hi - (lo - 1)).toNat).map fun (i : Nat) => hi + (i : Int) * (-1)
def partsBelow : Nat → Int → Int → List Pt
  | 0, _, _ => [[]]
  | f + 1, n, most => if n = 0 then [[]] else (downTo (if most < n then most else n) 1).flatMap fun first => (partsBelow f (n - first) first).map fun rest => first :: rest
def mrows : List Int → List Int → Int → List Pt
  | [], _, total => if total = 0 then [[]] else []
  | lo :: lows, highs, total => (downTo (highs.headD 0) lo).flatMap fun f => (mrows lows highs.tail (total - f)).map fun rest => f :: rest
def trimmed (row : Pt) : Pt := row.filter fun p => decide (0 < p)
def withStrip (b : Pt) (k : Int) : List Pt := (mrows (b ++ [0]) ((partAt b 0 + k) :: b) (b.sum + k)).map trimmed
def lowsOf (a : Pt) : Pt := (List.range a.length).map fun i => partAt a (i + 1)
def withoutStrip (a : Pt) (k : Int) : List Pt := (mrows (lowsOf a) a (a.sum - k)).map trimmed
def holds (a b : Pt) : Bool := if b.length > a.length then false else decide (((List.range b.length).filter fun i => decide (a.getD i 0 < b.getD i 0)).length = 0)

section
variable {α : Type}
def ins (le : α → α → Bool) (x : α) : List α → List α
  | [] => [x]
  | y :: ys => if le x y = true then x :: y :: ys else y :: ins le x ys
def isort (le : α → α → Bool) : List α → List α
  | [] => []
  | x :: xs => ins le x (isort le xs)
end
def listLt {α : Type} [DecidableEq α] (lt : α → α → Bool) : List α → List α → Bool
  | [], [] => false
  | [], _ :: _ => true
  | _ :: _, [] => false
  | x :: xs, y :: ys => if x = y then listLt lt xs ys else lt x y
def lt0 (x y : Int) : Bool := decide (x < y)
def lt1 : Pt → Pt → Bool := listLt lt0
def lt2 : List Pt → List Pt → Bool := listLt lt1
def le1 (x y : Pt) : Bool := !lt1 y x
def le2 (x y : List Pt) : Bool := !lt2 y x

def dget (L : List (Pt × Int)) (k : Pt) : Option Int := (L.find? fun kv => decide (kv.1 = k)).map (·.2)
def dput (L : List (Pt × Int)) (k : Pt) (v : Int) : List (Pt × Int) :=
  if (L.any fun kv => decide (kv.1 = k)) then L.map fun kv => if kv.1 = k then (kv.1, v) else kv else L ++ [(k, v)]
def addAll (outer : Pt) (c : Int) (later : List (Pt × Int)) (as : List Pt) : List (Pt × Int) :=
  as.foldl (fun later a => if holds outer a = true then dput later a ((dget later a).getD 0 + c) else later) later
def countStep (outer : Pt) (counts : List (Pt × Int)) (k : Int) : List (Pt × Int) :=
  (isort le1 (counts.map (·.1))).foldl (fun later b => addAll outer ((dget counts b).getD 0) later (withStrip b k)) []
def countF (outer content : Pt) : Int := (dget (content.foldl (countStep outer) [([], 1)]) outer).getD 0

def fillRow (chain : List Pt) (i : Nat) : Pt :=
  (List.range (chain.length - 1)).flatMap fun k => List.replicate ((partAt (chain.getD (k + 1) []) i - partAt (chain.getD k []) i).toNat) ((k : Int) + 1)
def fillingOf (chain : List Pt) : List Pt := (List.range (chain.getD (chain.length - 1) []).length).map (fillRow chain)
def chainStep (chains : List (List Pt)) (k : Int) : List (List Pt) :=
  chains.flatMap fun chain => ((withoutStrip (chain.getD 0 []) k).filter fun b => holds b []).map fun b => b :: chain
def fillingsM (outer content : Pt) : List (List Pt) :=
  isort le2 (((content.reverse.foldl chainStep [[outer]]).filter fun chain => decide (chain.getD 0 [] = [])).map fillingOf)

/-- the way up: rows k-1, .., 0 -/
def goUp : Nat → List Pt → Int → Option (List Pt × Int)
  | 0, out, x => some (out, x)
  | k + 1, out, x =>
    let row := out.getD k []
    let c := (row.filter fun y => decide (y < x)).length
    if c = 0 then none else goUp k (out.set k (row.set (c - 1) x)) (row.getD (c - 1) 0)
def takenM (rows : List Pt) (i : Nat) : Option (List Pt × Int) :=
  if decide (rows.length ≤ i) || (decide (i + 1 < rows.length) && decide ((rows.getD (i + 1) []).length = (rows.getD i []).length)) || decide ((rows.getD i []).length = 0) then none
  else match goUp i (rows.set i (rows.getD i []).dropLast) ((rows.getD i []).getD ((rows.getD i []).length - 1) 0) with
    | none => none
    | some (out, x) => some (out.filter fun row => decide (0 < row.length), x)
def lastKeys (q : List Pt) : List Pt := (List.range q.length).map fun i => [(q.getD i []).getD ((q.getD i []).length - 1) 0, ((q.getD i []).length : Int), (i : Int)]
def maxL : List Pt → Pt
  | [] => []
  | x :: xs => xs.foldl (fun a y => if lt1 a y = true then y else a) x
def lastPlace (q : List Pt) : Nat := ((maxL (lastKeys q)).getD 2 0).toNat
def cutQ (q : List Pt) (i : Nat) : List Pt :=
  ((List.range q.length).map fun k => if k ≠ i then q.getD k [] else (q.getD k []).dropLast).filter fun row => decide (0 < row.length)
def pairsBack : Nat → List Pt → List Pt → Option (List (Int × Int))
  | 0, _, q => if q = [] then some [] else none
  | f + 1, p, q => if q = [] then some [] else
    let i := lastPlace q
    match takenM p i with
    | none => none
    | some (p', x) => match pairsBack f p' (cutQ q i) with
      | none => none
      | some r => some (((q.getD i []).getD ((q.getD i []).length - 1) 0, x) :: r)
def putM : List (Int × Int) → List Pt → Int → Int → Option (List Pt)
  | [], rows, _, _ => some rows
  | (m, x) :: r, rows, h, w => if decide (1 ≤ m) && decide (m ≤ h) && decide (1 ≤ x) && decide (x ≤ w) then
      putM r (rows.set (m - 1).toNat ((rows.getD (m - 1).toNat []).set (x - 1).toNat ((rows.getD (m - 1).toNat []).getD (x - 1).toNat 0 + 1))) h w
    else none
def isPartitionM : Int → Pt → Bool
  | _, [] => true
  | before, p :: r => decide (1 ≤ p) && !(decide (0 ≤ before) && decide (before < p)) && isPartitionM p r
def shapeFits (rows : List Pt) (outer : Pt) : Bool := decide (rows.length = outer.length) && (List.range rows.length).all fun i => decide (((rows.getD i []).length : Int) = outer.getD i 0 - 0) && (rows.getD i []).all fun x => decide (1 ≤ x)
def numberAt (rows : List Pt) (i : Int) (j : Nat) : Int := if i < 0 then 0 else if rows.length ≤ i.toNat then 0 else if (rows.getD i.toNat []).length ≤ j then 0 else (rows.getD i.toNat []).getD j 0
def isFillingM (rows : List Pt) (outer : Pt) : Bool := shapeFits rows outer && (List.range rows.length).all fun i => (List.range (rows.getD i []).length).all fun t =>
  !(decide (0 < t) && decide ((rows.getD i []).getD (t - 1) 0 > (rows.getD i []).getD t 0)) && !decide (numberAt rows ((i : Int) - 1) t ≥ (rows.getD i []).getD t 0)
def checkPair (p q : List Pt) : Bool := let outer := p.map fun row => (row.length : Int); isPartitionM (-1) outer && isFillingM p outer && isFillingM q outer
def zeros (h w : Nat) : List Pt := List.replicate h (List.replicate w 0)
def matrixOf (p q : List Pt) (h w : Nat) : Option (List Pt) :=
  if checkPair p q = true then
    match pairsBack 8 p q with
    | none => none
    | some r => putM r.reverse (zeros h w) h w
  else none

def lawRows : List Int → Int → List Pt
  | [], t => if t = 0 then [[]] else []
  | b :: bs, t => (List.range ((if b < t then b else t) + 1).toNat).flatMap fun (x : Nat) => (lawRows bs (t - (x : Int))).map fun rest => (x : Int) :: rest
def maxI : List Int → Int
  | [] => 0
  | x :: xs => xs.foldl (fun a y => if a < y then y else a) x
def lawMatrices : List Int → Pt → List (List Pt)
  | [], cols => if maxI (cols ++ [0]) = 0 then [[]] else []
  | r :: rs, cols => (lawRows cols r).flatMap fun row => (lawMatrices rs ((List.range cols.length).map fun j => cols.getD j 0 - row.getD j 0)).map fun rest => row :: rest

def parts (n : Int) : List Pt := partsBelow n.toNat n n
def foundM (n : Int) (r c : Pt) : Option (List (List Pt)) :=
  ((parts n).flatMap fun s => (fillingsM s c).flatMap fun p => (fillingsM s r).map fun q => matrixOf p q r.length c.length).mapM id
def total (n : Int) (r c : Pt) : Int := (parts n).foldl (fun t s => t + countF s r * countF s c) 0
def check (n : Int) (r c : Pt) : Bool :=
  decide (total n r c = ((lawMatrices r c).length : Int)) &&
  (decide (n > 3) || match foundM n r c with
    | none => false
    | some found => decide (isort le2 found = isort le2 (lawMatrices r c)))
def contents (n : Nat) : List Pt :=
  [[(n : Int)]] ++ ((List.range (n + 1)).map fun (a : Nat) => [(a : Int), (n : Int) - a]) ++ ((List.range (n + 1)).flatMap fun (a : Nat) => (List.range (n + 1 - a)).map fun (b : Nat) => [(a : Int), (b : Int), (n : Int) - a - b])
end K19

namespace K19
open PySem PySem.Spec PyProof.Rows L2

/-! ### what a value holds -/
/-- v is a tuple of the ints ns -/
def IsP (K : PySem.W.Frag) (H : Hp) (v : V) (ns : List Int) : Prop := ∃ a, v = .ref a ∧ SqT K H a (ns.map V.int)
/-- v is a tuple of tuples of ints -/
def IsF (K : PySem.W.Frag) (H : Hp) (v : V) (rs : List (List Int)) : Prop := ∃ a vs, v = .ref a ∧ SqT K H a vs ∧ Paired (IsP K H) vs rs

theorem sameT {K : PySem.W.Frag} {H H' : Hp} {a : Addr} {xs : List V} (e : Same H H') (h : SqT K H a xs) : SqT K H' a xs := by
  rcases h with (h | ⟨o, h⟩) | h
  · exact .inl (.inl (e _ _ h))
  · exact .inl (.inr ⟨o, e _ _ h⟩)
  · exact .inr h
theorem IsP.same {K : PySem.W.Frag} {H H' : Hp} {v : V} {ns : List Int} (e : Same H H') (h : IsP K H v ns) : IsP K H' v ns := by
  obtain ⟨a, rfl, h⟩ := h
  exact ⟨a, rfl, sameT e h⟩
theorem sameP {α : Type} {R R' : V → α → Prop} {vs : List V} {xs : List α} (h : Paired R vs xs) (f : ∀ v x, R v x → R' v x) : Paired R' vs xs := Paired.mapP h f
theorem IsF.same {K : PySem.W.Frag} {H H' : Hp} {v : V} {rs : List (List Int)} (e : Same H H') (h : IsF K H v rs) : IsF K H' v rs := by
  obtain ⟨a, vs, rfl, h, p⟩ := h
  exact ⟨a, vs, rfl, sameT e h, sameP p fun _ _ q => q.same e⟩
theorem pLen {α β : Type} {R : α → β → Prop} : ∀ {vs : List α} {xs : List β}, Paired R vs xs → vs.length = xs.length
  | _, _, .nil => rfl
  | _, _, .cons _ t => congrArg Nat.succ (pLen t)
theorem pAt {α β : Type} {R : α → β → Prop} : ∀ {vs : List α} {xs : List β} {i : Nat} {v : α}, Paired R vs xs → vs[i]? = some v → ∃ x, xs[i]? = some x ∧ R v x
  | _, _, _, _, .nil, h => by simp at h
  | _, _, 0, _, .cons r _, h => by
    simp at h
    subst h
    exact ⟨_, rfl, r⟩
  | _, _, i + 1, _, .cons _ t, h => by
    obtain ⟨x, e, r⟩ := pAt (i := i) t (by simpa using h)
    exact ⟨x, by simpa using e, r⟩
theorem pAt' {α β : Type} {R : α → β → Prop} : ∀ {vs : List α} {xs : List β} {i : Nat} {x : β}, Paired R vs xs → xs[i]? = some x → ∃ v, vs[i]? = some v ∧ R v x
  | _, _, _, _, .nil, h => by simp at h
  | _, _, 0, _, .cons r _, h => by
    simp at h
    subst h
    exact ⟨_, rfl, r⟩
  | _, _, i + 1, _, .cons _ t, h => by
    obtain ⟨x, e, r⟩ := pAt' (i := i) t (by simpa using h)
    exact ⟨x, by simpa using e, r⟩
theorem pApp {α β : Type} {R : α → β → Prop} : ∀ {vs ws : List α} {xs ys : List β}, Paired R vs xs → Paired R ws ys → Paired R (vs ++ ws) (xs ++ ys)
  | _, _, _, _, .nil, h => h
  | _, _, _, _, .cons r t, h => .cons r (pApp t h)
theorem pDrop {α β : Type} {R : α → β → Prop} : ∀ {vs : List α} {xs : List β} (n : Nat), Paired R vs xs → Paired R (vs.drop n) (xs.drop n)
  | _, _, 0, r => r
  | _, _, _ + 1, .nil => .nil
  | _, _, n + 1, .cons _ t => pDrop n t
theorem pTake {α β : Type} {R : α → β → Prop} : ∀ {vs : List α} {xs : List β} (n : Nat), Paired R vs xs → Paired R (vs.take n) (xs.take n)
  | _, _, 0, _ => .nil
  | _, _, _ + 1, .nil => .nil
  | _, _, n + 1, .cons r t => .cons r (pTake n t)
theorem pRev {α β : Type} {R : α → β → Prop} : ∀ {vs : List α} {xs : List β}, Paired R vs xs → Paired R vs.reverse xs.reverse
  | _, _, .nil => .nil
  | _, _, .cons r t => by
    rw [List.reverse_cons, List.reverse_cons]
    exact pApp (pRev t) (.cons r .nil)
theorem pMapInt (ns : List Int) : Paired (fun v i => v = V.int i) (ns.map V.int) ns := by
  induction ns with
  | nil => exact .nil
  | cons n r ih => exact .cons rfl ih
theorem pIntMap : ∀ {vs : List V} {ns : List Int}, Paired (fun v i => v = V.int i) vs ns → vs = ns.map V.int
  | _, _, .nil => rfl
  | _, _, .cons r t => by rw [List.map_cons, ← pIntMap t, r]
theorem same_new {H : Hp} {p : Addr} (h : H p = none) (o : HO) : Same H (upd H p o) := fun b u q => by
  rw [upd_ne (ne_of_none q h)]
  exact q

/-! ### as the library's data -/
theorem dpInts (K : PySem.W.Frag) (H : Hp) : ∀ ns : List Int, DpAll K H (ns.map V.int) (ns.map PyData.int)
  | [] => .nil
  | n :: r => .cons (.int n) (dpInts K H r)
/-- a datum's form -/
def encP (ns : List Int) : PyData := .tuple (ns.map .int)
def encF (rs : List (List Int)) : PyData := .tuple (rs.map encP)
theorem IsP.dp {K : PySem.W.Frag} {H : Hp} {v : V} {ns : List Int} (h : IsP K H v ns) : Dp K H v (encP ns) := by
  obtain ⟨a, rfl, h⟩ := h
  exact .tup h (dpInts K H ns)
theorem dpAllOf {α : Type} {K : PySem.W.Frag} {H : Hp} {R : V → α → Prop} {enc : α → PyData} (f : ∀ v x, R v x → Dp K H v (enc x)) : ∀ {vs : List V} {xs : List α}, Paired R vs xs → DpAll K H vs (xs.map enc)
  | _, _, .nil => .nil
  | _, _, .cons r t => .cons (f _ _ r) (dpAllOf f t)
theorem IsF.dp {K : PySem.W.Frag} {H : Hp} {v : V} {rs : List (List Int)} (h : IsF K H v rs) : Dp K H v (encF rs) := by
  obtain ⟨a, vs, rfl, h, p⟩ := h
  exact .tup h (dpAllOf (fun _ _ q => q.dp) p)

/-! ### sum of a tuple -/
def rSumT (K : PySem.W.Frag) : List V → Hp → VK → Prop := fun vs H Q => ∃ (a : Addr) (ns : List Int), vs = [V.ref a] ∧ SqT K H a (ns.map V.int) ∧ Q (.int ns.sum) H
theorem cr_sumT {X : Cx} (hc : X.calm = true) : CallR X (.builtin "sum") (rSumT X.K) := by
  intro pins s σ H vs us Q I r h
  obtain ⟨a, ns, rfl, hs, q⟩ := h
  obtain ⟨its, rv, hl, _⟩ := I.tuple hs
  rw [Vals.ref1 r]
  have hi := rv.ints
  obtain ⟨xs, e⟩ := hi.allInts.items
  have hn : numsOf (intItems xs).toList = ns := by rw [← e]; exact hi.numsOf
  rw [nums_intItems] at hn
  rw [e] at hl
  refine PySem.W.ktm_sumG (I.ok.hd hc) hl fun h' tk t' hk => ?_
  have e2 : preSum (numAt xs) xs.size = ns.sum := by
    rw [preSum_eq, List.take_of_length_le (by simp), hn]
  rw [e2]
  exact ⟨.int _, H, I.kept hk, ⟨_, rfl⟩, q⟩

/-! ### enumerate(tuple) -/
section
open Sem (wp)
open AutoSeq1 (wpAny_loadPart')
set_option maxHeartbeats 1000000 in
theorem meets_enum_new1 {v : Value} {o : Obj} {HH : Heap → Prop} (B : Begins v o HH) :
    Meets (Builtin.«enumerate.__new__» ⟨[.type "enumerate", v], []⟩) (fun _ R s => HH s.heap ∧
      R (.ok (.ret (.ref (s.heap.push o).objs.size))) { s with heap := (s.heap.push o).push { cls := .type "enumerate", data := .fields #[.none, .bool false, .ref s.heap.objs.size, rawInt 0, .none, .none] } }) :=
  .of_wp fun prog w A R s h => by
    obtain ⟨hp, g, d, tk, os⟩ := s; obtain ⟨h1, h⟩ := h
    have hsub := sub_enumerate
    have q1 : ∀ {A' : Around} {E : Value → Shared → Prop} {Q : Value → Shared → Prop}, Q (.ref hp.objs.size) ⟨hp.push o, g, d, tk, os⟩ → wpAny (model prog w) A' (pyIter v) Q E ⟨hp, g, d, tk, os⟩ :=
      fun q => B.iter prog w _ _ ⟨hp, g, d, tk, os⟩ _ h1 q
    wp_walk using q1
    refine wpAny_stack_any fun st => wpAny_pure ?_
    split
    · rename_i c _ _ _ _ _
      cases (c == Value.type "enumerate")
      · wp_walk using q1
        exact ⟨_, rfl, h⟩
      · wp_walk using q1
        exact ⟨_, rfl, h⟩
    · wp_walk using q1
      exact ⟨_, rfl, h⟩
theorem call_enum1 {prog : Program} {w : World} {A : Around} {E : Value → Shared → Prop} {s : Shared} {v : Value} {o : Obj} {HH : Heap → Prop} {Q : Value → Shared → Prop} (B : Begins v o HH) (h1 : HH s.heap)
    (h : ∀ h', IsEnum h' (s.heap.objs.size + 1) s.heap.objs.size 0 .none → h'.get? s.heap.objs.size = some o → h'.objs.size = s.heap.objs.size + 2 →
      (∀ b o, s.heap.get? b = some o → h'.get? b = some o) → Q (.ref (s.heap.objs.size + 1)) { s with heap := h' }) :
    wpAny (model prog w) A (call (.type "enumerate") [v]) Q E s := by
  refine callType_new F.called_enumerate (by decide) (F.typeCall_enumerate_1 _) (F.newCall_enumerate_1 _) (fun obj => F.args_object_init_2 obj _) F.entry_enumerate_new
    (meets_enum_new1 B) ⟨h1, ?_⟩
  have hz : (s.heap.push o).objs.size = s.heap.objs.size + 1 := Heap.size_push ..
  show _ ∧ _
  rw [hz]
  have he : IsEnum ((s.heap.push o).push { cls := .type "enumerate", data := .fields #[.none, .bool false, .ref s.heap.objs.size, rawInt 0, .none, .none] }) (s.heap.objs.size + 1) s.heap.objs.size 0 .none := by
    have := Heap.get?_push_size (s.heap.push o) (o := { cls := .type "enumerate", data := .fields #[.none, .bool false, .ref s.heap.objs.size, rawInt 0, .none, .none] }) rfl
    rw [hz] at this; exact this
  refine ⟨⟨_, he, rfl⟩, h _ he (Heap.get?_push_of_some _ (Heap.get?_push_size _ B.free)) (by rw [Heap.size_push, hz]) fun b o x => Heap.get?_push_of_some _ (Heap.get?_push_of_some _ x)⟩
end
/-- the tuple at a, each item in a new pair -/
def Itet (K : PySem.W.Frag) (a : Addr) : It :=
  ⟨fun i H => ∃ (xs : List V) (x : V), SqT K H a xs ∧ xs[i]? = some x, fun i H v H' => ∃ T x, v = .ref T ∧ H T = none ∧ H' = upd H T (.tup [.int (i : Nat), x]) ∧ ∀ xs, SqT K H a xs → xs[i]? = some x, fun i H => ∃ xs : List V, SqT K H a xs ∧ xs.length ≤ i⟩
theorem turn_enumT {P : Program} {w : World} {K : PySem.W.Frag} {elts : List Expr} {kk : Nat} {tpos : Pos} (a e it : Addr) :
    Turn P w K (.Tuple elts kk tpos) (Itet K a) [e, it] e (fun i h => (∃ old, IsEnum h e it ((i : Nat) : Int) old) ∧ h.IsTupleIter it a i ∧ e ≠ it) where
  mem := by simp
  obj := fun i h st b hb => by
    obtain ⟨⟨old, he⟩, ⟨o, ho, hc, hd⟩, _⟩ := st
    have e' : b = e ∨ b = it := by simpa using hb
    rcases e' with z | z
    · rw [z]; exact ⟨_, he, fun v q => nomatch q⟩
    · rw [z]; exact ⟨o, ho, fun v q => by rw [hd] at q; cases q⟩
  keep := fun i h h' st k => let ⟨⟨old, he⟩, hi, hne⟩ := st; ⟨⟨old, k e (by simp) _ he⟩, hi.at fun o q => k it (by simp) o q, hne⟩
  item := by
    intro X hP hw hK hc i pins s σ H E I hf st hg
    subst hP hw hK
    obtain ⟨⟨old, he⟩, hit, hne⟩ := st
    obtain ⟨xs, x, hq, hx⟩ := hg
    obtain ⟨its, rv, p, hz⟩ := I.tuple hq
    obtain ⟨u, hu, ru⟩ := rv.get hx
    have hel : e < s.heap.objs.size := Heap.lt_size he
    have hil : it < s.heap.objs.size := by obtain ⟨_, q, _⟩ := hit; exact Heap.lt_size q
    have hai : a ≠ it := by
      rintro rfl
      obtain ⟨o, e1, c1, _⟩ := hit
      obtain ⟨o2, e2, c2, _⟩ := p
      rw [e1] at e2
      cases e2
      rw [c1] at c2
      exact absurd (Value.type.inj c2) (by decide)
    have hae : a ≠ e := by
      rintro rfl
      obtain ⟨o2, e2, c2, _⟩ := p
      rw [he] at e2
      cases e2
      exact absurd (Value.type.inj c2) (by decide)
    have hi : i < its.toArray.size := by
      have h2 := (List.getElem?_eq_some_iff.mp hu).1
      simpa using h2
    refine wpAny_pyNext_enum_itemD (Draws.tuple (A := X.A.in1) (I.ok.hd hc) it a hai its.toArray) he ⟨hit, p⟩ hi hne (by simp only [List.mem_cons, List.not_mem_nil, or_false, not_or]; exact ⟨hne, Ne.symm hae⟩) fun y h' tk hy ho st' hT hsz hk => ?_
    have ey : y = u := by
      have q : its[i]? = some y := by simpa using hy
      rw [hu] at q
      exact (Option.some.inj q).symm
    subst ey
    refine ⟨_, rfl, wpAny_letOwnedTupleGo_enum (s := { s with heap := h', toks := tk + 1 }) ho fun h'' he' sb => ?_⟩
    have hT2 : h''.get? s.heap.objs.size = some { cls := .type "tuple", data := .seq #[.int i tk, y] } := (sb.2 _ (Nat.ne_of_gt hel)).trans hT
    have new : ObjOk X.prog X.w (upd H s.heap.objs.size (.tup [.int (i : Nat), x])) h'' s.heap.objs.size (.tup [.int (i : Nat), x]) :=
      ⟨by show 2 ≤ sizeLine; decide, [.int i tk, y], .cons ⟨_, rfl⟩ (.cons ru .nil), ⟨_, hT2, rfl, _, rfl⟩⟩
    have I1 : Inv X pins σ (upd H s.heap.objs.size (.tup [.int (i : Nat), x])) { s with heap := h'', toks := tk + 1 } :=
      I.turnedNew (ch := [e, it]) (fun b ob hb q => (sb.2 b (fun z => hb (by simp [z]))).trans (hk b ob (fun z => hb (by simp [z])) (fun z => hb (by simp [z])) q)) hf (Nat.le_refl _) new
    refine ⟨.ref s.heap.objs.size, _, I1, rfl, ⟨_, x, rfl, I.hok.fresh (Nat.le_refl _), rfl, fun ys hy => by rw [I.tuple_inj hy hq]; exact hx⟩, ⟨⟨y, ?_⟩, st'.1.at fun o q => (sb.2 it (Ne.symm hne)).trans q, hne⟩, fun b hb => ?_⟩
    · have e1 : ((i + 1 : Nat) : Int) = (i : Int) + 1 := by omega
      rw [e1]; exact he'
    · have hb' : b < s.heap.objs.size := by
        have e' : b = e ∨ b = it := by simpa using hb
        rcases e' with z | z
        · rw [z]; exact hel
        · rw [z]; exact hil
      rw [upd_ne (Nat.ne_of_lt hb')]
      exact (hf b hb).1
  done := by
    intro X hP hw hK hc i pins s σ H E I hf st hg
    subst hP hw hK
    obtain ⟨⟨old, he⟩, hit, hne⟩ := st
    obtain ⟨xs, hq, hx⟩ := hg
    obtain ⟨its, rv, p, hz⟩ := I.tuple hq
    obtain ⟨f0, f1, f2, f3, f4, f5⟩ := hf it (by simp)
    have hl := rv.length
    have hai : a ≠ it := by
      rintro rfl
      obtain ⟨o, e1, c1, _⟩ := hit
      obtain ⟨o2, e2, c2, _⟩ := p
      rw [e1] at e2
      cases e2
      rw [c1] at c2
      exact absurd (Value.type.inj c2) (by decide)
    have hT : s.TypeIs (.ref e) "enumerate" := ⟨_, he, rfl⟩
    unfold pyNext
    refine wpAny_bind (wpAny_attempt (wpAny_callSpecial?_slot (name := Str.ofString "__next__") hT F.slot_enumerate_next
      (wpAny_call_entry F.slot_enumerate_next hT F.entry_enumerate_next ?_ (F.args_enumerate_next_1 _))))
    show wpAny _ _ (field (.ref e) 2 >>= _) _ _ _
    refine wpAny_bind (wpAny_field he rfl (x := .ref it) rfl ?_)
    refine wpAny_bind (wpAny_nextOf_tuple_end (I.ok.hd hc) hit p (by simp; omega) fun h' x he' hx' => ?_)
    obtain ⟨o, ho, hc'⟩ := hx'
    refine wpAny_bind (wpAny_isInstance (T := "StopIteration") (b := true) ⟨o, ho, hc'⟩ isSubtype_stop ?_)
    exact wpAny_pure ⟨rfl, I.turned (t' := s.toks) (fun b o hb q => he' b o hb q) f0 f1 f3 f4 f5⟩
  self := fun A i s Q E st h => let ⟨⟨_, he⟩, _⟩ := st; wpAny_pyIter_enum he h
def iEnumT (K : PySem.W.Frag) (ta : TA) : L2.TI := fun σ H R => ta σ H fun vs H1 => ∃ a xs, vs = [.ref a] ∧ SqT K H1 a xs ∧ R (Itet K a) H1
theorem pi_enumT {X : Cx} {e : Expr} {ta : TA} {p pos tpos : Pos} {elts : List Expr} {kk : Nat} (hg : Gl X "enumerate") (hm : X.mg "enumerate" = none) (ha : PA X [e] ta) (hs : starEach [e] X.env = [(false, eval e X.env)] := by rfl) :
    PI X (.Tuple elts kk tpos) (.Call (.Name "enumerate" p) [e] [] pos) (iEnumT X.K ta) := by
  refine ⟨fun pins s σ H R I h => ?_⟩
  refine Call_ (ld_blt I hg hm boot_enumerate (PyProof.Rows.callWith_type1 (thn (ha.run pos pins s σ H _ I h) fun us s1 ⟨vs, H1, I1, r1, q1⟩ => ?_) hs rfl))
  obtain ⟨a, xs, ex, hq, q⟩ := q1
  subst ex
  cases r1 with
  | cons r rr =>
    cases rr
    cases r
    obtain ⟨its, rv, p', hz⟩ := I1.tuple hq
    refine call_enum1 (begins_tuple a its.toArray) p' fun h' he hit hsz hk => wpAny_pyIter_enum he ?_
    have I2 : Inv X pins σ H1 { s1 with heap := h' } := I1.kept (t' := s1.toks) hk
    refine ⟨s1.heap.objs.size + 1, [s1.heap.objs.size + 1, s1.heap.objs.size], _, _, H1, rfl, I2, turn_enumT a (s1.heap.objs.size + 1) s1.heap.objs.size, ⟨⟨.none, he⟩, ⟨_, hit, rfl, rfl⟩, Nat.succ_ne_self _⟩, fun b hb => ?_, q⟩
    have e' : b = s1.heap.objs.size + 1 ∨ b = s1.heap.objs.size := by simpa using hb
    have hle : s1.heap.objs.size ≤ b := by
      rcases e' with z | z
      · rw [z]; exact Nat.le_add_right _ _
      · rw [z]; exact Nat.le_refl _
    exact I1.fpOk hle (I1.hok.fresh hle)
theorem walk_enumT {K : PySem.W.Frag} {a : Addr} {xs : List V} : Walk (Itet K a) xs.length (fun H => SqT K H a xs) (YPair (fun i => some (.int (i : Nat))) (fun i => xs[i]?)) :=
  ⟨fun i _ hi q => ⟨xs, xs[i], q, by simp [hi]⟩, fun _ q => ⟨xs, q, Nat.le_refl _⟩, fun i H v H' _ q y => by
    obtain ⟨T, x, e1, e2, e3, f⟩ := y
    exact ⟨T, _, x, e1, e2, e3, rfl, f xs q⟩⟩
end K19

namespace K19
open PySem PySem.Spec PyProof.Rows L2

/-! ### one sorted list -/
section
variable {α : Type} {le : α → α → Bool}
/-- a total order -/
structure Tot (le : α → α → Bool) : Prop where
  tot : ∀ x y, le x y = true ∨ le y x = true
  tr : ∀ x y z, le x y = true → le y z = true → le x z = true
  anti : ∀ x y, le x y = true → le y x = true → x = y
theorem ins_perm (x : α) : ∀ l : List α, (ins le x l).Perm (x :: l)
  | [] => List.Perm.refl _
  | y :: ys => by
    unfold ins
    split
    · exact List.Perm.refl _
    · exact ((ins_perm x ys).cons y).trans (List.Perm.swap x y ys)
theorem isort_perm : ∀ l : List α, (isort le l).Perm l
  | [] => List.Perm.refl _
  | x :: xs => (ins_perm x _).trans ((isort_perm xs).cons x)
theorem ins_sorted (T : Tot le) (x : α) : ∀ l : List α, l.Pairwise (fun a b => le a b = true) → (ins le x l).Pairwise (fun a b => le a b = true)
  | [], _ => List.pairwise_singleton _ _
  | y :: ys, h => by
    obtain ⟨h1, h2⟩ := List.pairwise_cons.mp h
    unfold ins
    split
    · rename_i hxy
      refine List.pairwise_cons.mpr ⟨fun z hz => ?_, h⟩
      rcases List.mem_cons.mp hz with e | hz
      · rw [e]; exact hxy
      · exact T.tr _ _ _ hxy (h1 z hz)
    · rename_i hxy
      have hyx : le y x = true := (T.tot x y).resolve_left hxy
      refine List.pairwise_cons.mpr ⟨fun z hz => ?_, ins_sorted T x ys h2⟩
      rcases List.mem_cons.mp ((ins_perm x ys).mem_iff.mp hz) with e | hz
      · rw [e]; exact hyx
      · exact h1 z hz
theorem isort_sorted (T : Tot le) : ∀ l : List α, (isort le l).Pairwise (fun a b => le a b = true)
  | [] => List.Pairwise.nil
  | x :: xs => ins_sorted T x _ (isort_sorted T xs)
theorem one_sorted (T : Tot le) : ∀ {l m : List α}, l.Perm m → l.Pairwise (fun a b => le a b = true) → m.Pairwise (fun a b => le a b = true) → l = m
  | [], m, h, _, _ => (List.Perm.eq_nil h.symm).symm
  | x :: l, [], h, _, _ => absurd h.length_eq (by simp)
  | x :: l, y :: m, h, hl, hm => by
    obtain ⟨l1, l2⟩ := List.pairwise_cons.mp hl
    obtain ⟨m1, m2⟩ := List.pairwise_cons.mp hm
    have h1 : le y x = true := by
      rcases List.mem_cons.mp (h.mem_iff.mp (List.mem_cons_self (a := x) (l := l))) with e | hx
      · rw [e]
        exact (T.tot y y).elim id id
      · exact m1 x hx
    have h2 : le x y = true := by
      rcases List.mem_cons.mp (h.mem_iff.mpr (List.mem_cons_self (a := y) (l := m))) with e | hy
      · rw [e]
        exact (T.tot x x).elim id id
      · exact l1 y hy
    have e := T.anti _ _ h2 h1
    subst e
    rw [one_sorted T h.cons_inv l2 m2]
end

/-! ### the orders -/
structure Sto {α : Type} (lt : α → α → Bool) : Prop where
  irr : ∀ x, lt x x = false
  tr : ∀ x y z, lt x y = true → lt y z = true → lt x z = true
  tri : ∀ x y, x = y ∨ lt x y = true ∨ lt y x = true
theorem perm_short {α : Type} : ∀ {l m : List α}, m.Perm l → l.length < 2 → m = l
  | [], _, h, _ => List.Perm.eq_nil h
  | [_], _, h, _ => List.perm_singleton.mp h
  | _ :: _ :: l, _, _, hl => absurd hl (by simp)
theorem isort_short {α : Type} {le : α → α → Bool} : ∀ {l : List α}, l.length < 2 → isort le l = l
  | [], _ => rfl
  | [_], _ => rfl
  | _ :: _ :: l, hl => absurd hl (by simp)
section
variable {α : Type} {lt : α → α → Bool}
theorem listLt_sto [DecidableEq α] (O : Sto lt) : Sto (listLt lt) := by
  have irr : ∀ x, listLt lt x x = false := fun x => by
    induction x with
    | nil => rfl
    | cons a r ih =>
      unfold listLt
      rw [if_pos rfl]
      exact ih
  have tr : ∀ x y z, listLt lt x y = true → listLt lt y z = true → listLt lt x z = true := by
    intro x
    induction x with
    | nil =>
      intro y z h1 h2
      cases z with
      | nil => cases y <;> simp [listLt] at h2
      | cons c z => rfl
    | cons a x ih =>
      intro y z h1 h2
      cases y with
      | nil => simp [listLt] at h1
      | cons b y =>
        cases z with
        | nil => simp [listLt] at h2
        | cons c z =>
          unfold listLt at h1 h2 ⊢
          by_cases e1 : a = b
          · subst e1
            rw [if_pos rfl] at h1
            by_cases e2 : a = c
            · subst e2
              rw [if_pos rfl] at h2 ⊢
              exact ih y z h1 h2
            · rw [if_neg e2] at h2 ⊢
              exact h2
          · rw [if_neg e1] at h1
            by_cases e2 : b = c
            · subst e2
              rw [if_neg e1]
              exact h1
            · rw [if_neg e2] at h2
              have h3 := O.tr _ _ _ h1 h2
              by_cases e3 : a = c
              · subst e3
                rw [O.irr] at h3
                cases h3
              · rw [if_neg e3]
                exact h3
  refine ⟨irr, tr, ?_⟩
  intro x
  induction x with
  | nil =>
    intro y
    cases y with
    | nil => exact .inl rfl
    | cons b y => exact .inr (.inl rfl)
  | cons a x ih =>
    intro y
    cases y with
    | nil => exact .inr (.inr rfl)
    | cons b y =>
      by_cases e : a = b
      · subst e
        rcases ih y with h | h | h
        · exact .inl (by rw [h])
        · refine .inr (.inl ?_)
          unfold listLt
          rw [if_pos rfl]
          exact h
        · refine .inr (.inr ?_)
          unfold listLt
          rw [if_pos rfl]
          exact h
      · rcases O.tri a b with h | h | h
        · exact absurd h e
        · refine .inr (.inl ?_)
          unfold listLt
          rw [if_neg e]
          exact h
        · refine .inr (.inr ?_)
          unfold listLt
          rw [if_neg (Ne.symm e)]
          exact h
theorem Sto.tot (O : Sto lt) : Tot (fun x y => !lt y x) := by
  have as : ∀ x y, lt x y = true → lt y x = true → False := fun x y h1 h2 => by
    have h := O.tr _ _ _ h1 h2
    rw [O.irr] at h
    cases h
  refine ⟨fun x y => ?_, fun x y z h1 h2 => ?_, fun x y h1 h2 => ?_⟩
  · rcases O.tri x y with e | h | h
    · left
      rw [e, O.irr]
      rfl
    · left
      cases q : lt y x with
      | false => rfl
      | true => exact (as _ _ h q).elim
    · right
      cases q : lt x y with
      | false => rfl
      | true => exact (as _ _ h q).elim
  · have h1 : lt y x = false := by simpa using h1
    have h2 : lt z y = false := by simpa using h2
    show (!lt z x) = true
    cases q : lt z x with
    | false => rfl
    | true =>
      rcases O.tri x y with e | h | h
      · rw [e, h2] at q; cases q
      · have := O.tr _ _ _ q h
        rw [h2] at this; cases this
      · rw [h1] at h; cases h
  · have h1 : lt y x = false := by simpa using h1
    have h2 : lt x y = false := by simpa using h2
    rcases O.tri x y with e | h | h
    · exact e
    · rw [h2] at h; cases h
    · rw [h1] at h; cases h
end
theorem sto0 : Sto lt0 := ⟨fun x => by simp [lt0], fun x y z h1 h2 => by simp [lt0] at *; omega, fun x y => by simp [lt0]; omega⟩
theorem sto1 : Sto lt1 := listLt_sto sto0
theorem sto2 : Sto lt2 := listLt_sto sto1
theorem tot1 : Tot le1 := sto1.tot
theorem tot2 : Tot le2 := sto2.tot

/-! ### Python's < of such data -/
open PySem.W in
def tup1 (ns : List Int) : Tup Int := ⟨ns⟩
open PySem.W in
def tup2 (rs : List (List Int)) : Tup (Tup Int) := ⟨rs.map tup1⟩
theorem encP_eq (ns : List Int) : encP ns = PySem.W.Datum.toD (tup1 ns) := rfl
theorem encF_eq (rs : List (List Int)) : encF rs = PySem.W.Datum.toD (tup2 rs) := by
  show PyData.tuple (rs.map encP) = PyData.tuple ((rs.map tup1).map PySem.W.Datum.toD)
  rw [List.map_map]
  rfl
theorem tup1_inj {a b : List Int} (h : tup1 a = tup1 b) : a = b := congrArg PySem.W.Tup.items h
theorem lt_p : ∀ a b : List Int, PySem.W.listLt a b = lt1 a b
  | [], [] => rfl
  | [], _ :: _ => rfl
  | _ :: _, [] => rfl
  | x :: xs, y :: ys => by
    unfold PySem.W.listLt lt1 listLt
    rw [lt_p xs ys]
    rfl
theorem lt_f : ∀ a b : List (List Int), PySem.W.listLt (a.map tup1) (b.map tup1) = lt2 a b
  | [], [] => rfl
  | [], _ :: _ => rfl
  | _ :: _, [] => rfl
  | x :: xs, y :: ys => by
    rw [List.map_cons, List.map_cons]
    unfold PySem.W.listLt lt2 listLt
    rw [lt_f xs ys]
    have e : (tup1 x = tup1 y) = (x = y) := propext ⟨tup1_inj, fun h => by rw [h]⟩
    have e2 : PySem.W.DatumOrd.lt (tup1 x) (tup1 y) = lt1 x y := lt_p x y
    rw [e2]
    by_cases h : x = y
    · rw [if_pos h, if_pos (by rw [h])]
      rfl
    · rw [if_neg h, if_neg (fun q => h (tup1_inj q))]
theorem dataLtP (a b : List Int) : PySem.W.dataLt (encP a) (encP b) = lt1 a b := by
  rw [encP_eq, encP_eq, PySem.W.DatumOrd.lt_eq]
  exact lt_p a b
theorem dataLtF (a b : List (List Int)) : PySem.W.dataLt (encF a) (encF b) = lt2 a b := by
  rw [encF_eq, encF_eq, PySem.W.DatumOrd.lt_eq]
  exact lt_f a b
theorem alikeP (a b : List Int) : PySem.W.alike (encP a) (encP b) = true := by
  rw [encP_eq, encP_eq]
  exact PySem.W.DatumOrd.alike _ _
theorem alikeF (a b : List (List Int)) : PySem.W.alike (encF a) (encF b) = true := by
  rw [encF_eq, encF_eq]
  exact PySem.W.DatumOrd.alike _ _
theorem depthP (a : List Int) : (encP a).depth ≤ 1 := by
  rw [encP_eq]
  exact PySem.W.Datum.depth_le _
theorem depthF (a : List (List Int)) : (encF a).depth ≤ 2 := by
  rw [encF_eq]
  exact PySem.W.Datum.depth_le _
theorem eqvP (a b : List Int) : PyData.eqv (encP a) (encP b) = decide (a = b) := by
  rw [encP_eq, encP_eq, PySem.W.Datum.eqv]
  exact decide_eq_decide.mpr ⟨tup1_inj, fun h => by rw [h]⟩

/-! ### sorted(list) -/
structure Ord (α : Type) where
  enc : α → PyData
  lt : α → α → Bool
  alike : ∀ a b, PySem.W.alike (enc a) (enc b) = true
  data : ∀ a b, PySem.W.dataLt (enc a) (enc b) = lt a b
  depth : ∀ a, (enc a).depth ≤ 2
  sto : Sto lt
  ne : α → Prop
  tup : ∀ a, ne a → ∃ x r, enc a = .tuple (x :: r)
def ordP : Ord (List Int) := ⟨encP, lt1, alikeP, dataLtP, fun a => Nat.le_trans (depthP a) (by decide), sto1, fun a => a ≠ [], fun a h => by
  cases a with
  | nil => exact absurd rfl h
  | cons x r => exact ⟨_, _, rfl⟩⟩
def ordF : Ord (List (List Int)) := ⟨encF, lt2, alikeF, dataLtF, depthF, sto2, fun a => a ≠ [], fun a h => by
  cases a with
  | nil => exact absurd rfl h
  | cons x r => exact ⟨_, _, rfl⟩⟩
section
variable {α : Type} (D : Ord α)
theorem merge_isort (bs : List α) : bs.mergeSort (PySem.W.dataLe false D.enc) = isort (fun x y => !D.lt y x) bs := by
  have e : PySem.W.dataLe false D.enc = fun x y => !D.lt y x := by
    rw [PySem.W.dataLe_eq]
    funext a b
    show (!PySem.W.dataLt (D.enc b) (D.enc a)) = _
    rw [D.data]
  rw [e]
  have T := D.sto.tot
  refine one_sorted T ((List.mergeSort_perm _ _).trans (isort_perm _).symm) ?_ (isort_sorted T _)
  exact List.pairwise_mergeSort (fun a b c h1 h2 => T.tr a b c h1 h2) (fun a b => by
    rcases T.tot a b with h | h
    · rw [h]; rfl
    · rw [h, Bool.or_true]) bs
theorem eachOf {β : Type} {X : Cx} {R : V → β → Prop} : ∀ {xs : List V} {us : List Value} {bs : List β}, Vals xs us → Paired R xs bs → PySem.W.EachIs (fun u b => ∃ v, RelV v u ∧ R v b) us bs
  | _, _, _, .nil, .nil => .nil
  | _, _, _, .cons r t, .cons q p => .cons ⟨_, r, q⟩ (eachOf (X := X) t p)
theorem ofEach {β : Type} {R : V → β → Prop} : ∀ {us : List Value} {bs : List β}, PySem.W.EachIs (fun u b => ∃ v, RelV v u ∧ R v b) us bs → ∃ xs, Vals xs us ∧ Paired R xs bs
  | _, _, .nil => ⟨[], .nil, .nil⟩
  | _, _, .cons ⟨v, r, q⟩ t => by
    obtain ⟨xs, h1, h2⟩ := ofEach t
    exact ⟨v :: xs, .cons r h1, .cons q h2⟩
def rSortD (R : Hp → V → α → Prop) (K : PySem.W.Frag) : List V → Hp → VK → Prop := fun vs H Q => ∃ (a : Addr) (xs : List V) (bs : List α), vs = [V.ref a] ∧ SqL K H a xs ∧ Paired (R H) xs bs ∧ (2 ≤ bs.length → ∀ b ∈ bs, D.ne b) ∧
  ∀ (ys : List V) (p : Addr), Paired (R H) ys (isort (fun x y => !D.lt y x) bs) → H p = none → Q (.ref p) (upd H p (.lst ys))
theorem cr_sortD {X : Cx} {R : Hp → V → α → Prop} (hR : ∀ H v b, R H v b → Dp X.K H v (D.enc b)) (hu : X.A.units + 64 < cLine) : CallR X (.builtin "sorted") (rSortD D R X.K) := by
  intro pins s σ H vs us Q I r h
  obtain ⟨a, xs, bs, rfl, hs, hp, hn, q⟩ := h
  obtain ⟨its, rv, hl, hz⟩ := I.list hs
  rw [Vals.ref1 r]
  have hlen : its.length = bs.length := by rw [← rv.length, pLen hp]
  have fin : ∀ out : List Value, (∃ ys, Vals ys out ∧ Paired (R H) ys (isort (fun x y => !D.lt y x) bs)) → EP X pins σ Q (.ref (s.heap.objs.size + 1)) { s with heap := sortedAll s.heap its out.toArray } := by
    rintro out ⟨ys, h1, h2⟩
    obtain ⟨ep, he'⟩ := PyProof.Rows.sortedAll_at s.heap its out.toArray
    have hl2 : ys.length ≤ sizeLine := by
      rw [pLen h2, (isort_perm bs).length_eq, ← pLen hp]
      exact hz
    exact ⟨.ref _, upd H (s.heap.objs.size + 1) (.lst ys), I.laid (t' := s.toks) (fun _ _ => PyProof.Rows.sortedAll_old) (Nat.le_succ _) ⟨hl2, out, ep, h1, he'⟩, rfl, q ys _ h2 (I.hok.fresh (Nat.le_succ _))⟩
  by_cases h2 : 2 ≤ bs.length
  · have hne := hn h2
    have er : PySem.W.EachIs (fun u b => ∃ as, Reads s.heap u (D.enc b) as) its bs := (eachOf (X := X) rv hp).mono fun u b ⟨v, r1, r2⟩ => Dp.reads I _ v u (hR _ _ _ r2) r1
    refine PySem.W.sorted_data (enc := D.enc) (bs := bs) (R := fun u b => ∃ v, RelV v u ∧ R H v b) hl.isList (eachOf (X := X) rv hp) er (PySem.W.AllAlike.of D.alike) (.inl fun d hd => ?_) (by rw [← pLen hp]; exact hz) (fun b _ => ?_) fun out _ ho => ?_
    · obtain ⟨b, hb, rfl⟩ := List.mem_map.mp hd
      exact D.tup b (hne b hb)
    · have := D.depth b
      omega
    · rw [merge_isort] at ho
      exact fin out (ofEach ho)
  · refine SrtO.sorted_ord (ltv := fun _ _ => false) ⟨fun _ _ _ => rfl, fun _ _ _ _ _ => rfl⟩ hl.isList (by rw [← rv.length]; exact hz) (fun h3 => absurd (by rw [← hlen]; exact h3) h2) fun out _ hb => fin out ?_
    rw [perm_short hb.perm (by omega), isort_short (by omega)]
    exact ⟨xs, rv, hp⟩
end
end K19

namespace K19
open PySem PySem.Spec PyProof.Rows L2

/-! ### max of a list of tuples of ints -/
def rMaxP (K : PySem.W.Frag) : List V → Hp → VK → Prop := fun vs H Q => ∃ (a : Addr) (xs : List V) (bs : List (List Int)), vs = [V.ref a] ∧ SqL K H a xs ∧ Paired (IsP K H) xs bs ∧ bs ≠ [] ∧ ∀ v, IsP K H v (maxL bs) → Q v H
theorem maxL_eq (x : List Int) (xs : List (List Int)) : PySem.W.maxOf (tup1 x) (xs.map tup1) = tup1 (maxL (x :: xs)) := by
  unfold PySem.W.maxOf maxL
  rw [List.foldl_map]
  have key : ∀ (l : List (List Int)) (a : List Int), l.foldl (fun (a : PySem.W.Tup Int) y => if PySem.W.DatumOrd.lt a (tup1 y) = true then tup1 y else a) (tup1 a) = tup1 (l.foldl (fun a y => if lt1 a y = true then y else a) a) := by
    intro l
    induction l with
    | nil => intro a; rfl
    | cons y r ih =>
      intro a
      rw [List.foldl_cons, List.foldl_cons]
      have e : PySem.W.DatumOrd.lt (tup1 a) (tup1 y) = lt1 a y := lt_p a y
      rw [e]
      by_cases h : lt1 a y = true
      · rw [if_pos h, if_pos h]
        exact ih y
      · rw [if_neg h, if_neg h]
        exact ih a
  exact key xs x
theorem holdAll_of {X : Cx} {pins : List (Addr × Obj)} {σ : L2.St} {H : Hp} {s : Shared} (I : Inv X pins σ H s) : ∀ {us : List Value} {bs : List (List Int)}, PySem.W.EachIs (fun u b => ∃ v, RelV v u ∧ IsP X.K H v b) us bs → PySem.W.HoldAll s.heap us (bs.map tup1)
  | _, _, .nil => PySem.W.HoldAll.nil
  | _, _, .cons ⟨v, r, q⟩ t => by
    obtain ⟨as, h⟩ := Dp.reads I _ _ _ q.dp r
    exact PySem.W.HoldAll.cons ⟨as, h⟩ (holdAll_of I t)
theorem cr_maxP {X : Cx} (hc : X.calm = true) (hu : X.A.units + 64 < cLine) : CallR X (.builtin "max") (rMaxP X.K) := by
  intro pins s σ H vs us Q I r h
  obtain ⟨a, xs, bs, rfl, hs, hp, hne, q⟩ := h
  obtain ⟨its, rv, hl, hz⟩ := I.list hs
  rw [Vals.ref1 r]
  have he := eachOf (X := X) rv hp
  cases bs with
  | nil => exact absurd rfl hne
  | cons b bs =>
    have ha := holdAll_of I he
    refine PySem.W.max_list_datum (α := PySem.W.Tup Int) (x := tup1 b) (xs := bs.map tup1) (I.ok.hd hc) hl.isList (by simpa using ha) ?_ fun i v h' tk hi hv hk => ?_
    · show X.A.units + 1 + 1 < cLine
      omega
    · rw [maxL_eq] at hv
      have hi' : its[i]? = some v := by simpa using hi
      have I1 : Inv X pins σ H { s with heap := h', toks := tk } := I.kept hk
      obtain ⟨x, hx, hr⟩ : ∃ x, xs[i]? = some x ∧ RelV x v := by
        have hlt : i < xs.length := by
          have := (List.getElem?_eq_some_iff.mp hi').1
          rw [rv.length]
          exact this
        obtain ⟨u, h1, h2⟩ := rv.get (List.getElem?_eq_getElem hlt)
        rw [hi'] at h1
        cases h1
        exact ⟨_, List.getElem?_eq_getElem hlt, h2⟩
      obtain ⟨c, hc1, hc2⟩ := pAt hp hx
      obtain ⟨as, h1⟩ := Dp.reads I1 _ _ _ hc2.dp hr
      obtain ⟨as', h2⟩ := hv
      have e := PySem.W.alike_unique _ _ _ _ _ (alikeP c (maxL (b :: bs))) h1 h2
      have e2 : c = maxL (b :: bs) := by
        have q1 := eqvP c (maxL (b :: bs))
        rw [e] at q1
        have q2 := eqvP (maxL (b :: bs)) (maxL (b :: bs))
        rw [q1] at q2
        simpa using q2
      rw [e2] at hc2
      exact ⟨x, H, I1, hr, q x hc2⟩

/-! ### dicts whose keys are tuples of ints, values ints; the keys may stand in the written part -/
abbrev DL := List (List Int × Addr × Int)
def dRel : DL → List (List Int × Addr × Value) → Prop := Paired fun p q => p.1 = q.1 ∧ p.2.1 = q.2.1 ∧ ∃ t, q.2.2 = Value.int p.2.2 t
section
variable (P : Program) (w : World)
def dRaw (h : Heap) (a : Addr) (L : DL) : Prop := L.length ≤ sizeLine ∧ (a == sysModules) = false ∧ ∃ xs, dRel L xs ∧
  ∃ o es ep, h.get? a = some o ∧ o.ExactDict ∧ o.data = .dict es ep ∧ es.toList = xs.map (entryOfKey (tupleKind (intKind P w))) ∧ (xs.map (·.1)).Nodup
def DRO (a : Addr) (L : DL) : HO := .ext fun h => dRaw P w h a L
end
def Keys (K : PySem.W.Frag) (H : Hp) (L : DL) : Prop := ∀ p ∈ L, SqT K H p.2.1 (p.1.map V.int)
def era (L : DL) : List (List Int × Int) := L.map fun p => (p.1, p.2.2)
def storeL (L : DL) (k : List Int) (b : Addr) (v : Int) : DL := if (L.any fun p => decide (p.1 = k)) then L.map fun p => if p.1 = k then (p.1, p.2.1, v) else p else L ++ [(k, b, v)]
theorem era_store (k : List Int) (b : Addr) (v : Int) (L : DL) : era (storeL L k b v) = dput (era L) k v := by
  have e : (era L).any (fun kv => decide (kv.1 = k)) = L.any fun p => decide (p.1 = k) := by
    unfold era
    rw [List.any_map]
    rfl
  unfold storeL dput
  rw [e]
  split
  · unfold era
    rw [List.map_map, List.map_map]
    refine List.map_congr_left fun p _ => ?_
    show ((if p.1 = k then (p.1, p.2.1, v) else p).1, (if p.1 = k then (p.1, p.2.1, v) else p).2.2) = if p.1 = k then (p.1, v) else (p.1, p.2.2)
    split <;> rfl
  · unfold era
    rw [List.map_append]
    rfl
theorem storeL_len (k : List Int) (b : Addr) (v : Int) (L : DL) : (storeL L k b v).length ≤ L.length + 1 := by
  unfold storeL
  split
  · rw [List.length_map]; omega
  · rw [List.length_append]; exact Nat.le_refl _
theorem storeL_keys {K : PySem.W.Frag} {H : Hp} {k : List Int} {b : Addr} {v : Int} {L : DL} (h : Keys K H L) (hb : SqT K H b (k.map V.int)) : Keys K H (storeL L k b v) := by
  intro p hp
  unfold storeL at hp
  split at hp
  · obtain ⟨q, hq, rfl⟩ := List.mem_map.mp hp
    split
    · exact h q hq
    · exact h q hq
  · rcases List.mem_append.mp hp with hp | hp
    · exact h p hp
    · obtain rfl := List.mem_singleton.mp hp
      exact hb
theorem dRel.val {L : DL} {xs : List (List Int × Addr × Value)} (r : dRel L xs) (k : List Int) : (∀ v, dget (era L) k = some v → ∃ p t, atKey xs k = some p ∧ p.2 = Value.int v t) ∧ (dget (era L) k = none → atKey xs k = none) := by
  unfold dRel at r
  induction r with
  | nil => exact ⟨fun v h => by simp [dget, era] at h, fun _ => rfl⟩
  | @cons p q ps qs h t ih =>
    obtain ⟨h1, h2, tk, h3⟩ := h
    unfold dget era at *
    unfold atKey at *
    by_cases e : p.1 = k
    · have e' : q.1 = k := by rw [← h1]; exact e
      rw [List.map_cons, List.find?_cons_of_pos (by simp [e]), List.find?_cons_of_pos (by simp [e'])]
      refine ⟨fun v hv => ?_, fun hv => by simp at hv⟩
      have ev : p.2.2 = v := by simpa using hv
      exact ⟨_, tk, rfl, by rw [h3, ev]⟩
    · have e' : ¬ q.1 = k := by rw [← h1]; exact e
      rw [List.map_cons, List.find?_cons_of_neg (by simp [e]), List.find?_cons_of_neg (by simp [e'])]
      exact ih
theorem dRel.any {L : DL} {xs : List (List Int × Addr × Value)} (r : dRel L xs) (k : List Int) : (L.any fun p => decide (p.1 = k)) = (atKey xs k).isSome := by
  unfold dRel at r
  induction r with
  | nil => rfl
  | @cons p q ps qs h t ih =>
    unfold atKey at *
    by_cases e : p.1 = k
    · have e' : q.1 = k := by rw [← h.1]; exact e
      rw [List.any_cons, List.find?_cons_of_pos (by simp [e'])]
      simp [e]
    · have e' : ¬ q.1 = k := by rw [← h.1]; exact e
      rw [List.any_cons, List.find?_cons_of_neg (by simp [e']), ih]
      simp [e]
theorem dRel.put {L : DL} {xs : List (List Int × Addr × Value)} (r : dRel L xs) (k : List Int) (b : Addr) (v : Int) (t : Tok) : dRel (storeL L k b v) (storedH xs k b (Value.int v t)) := by
  unfold storeL storedH
  rw [r.any k]
  by_cases q : (atKey xs k).isSome = true
  · rw [if_pos q, if_pos q]
    clear q
    unfold dRel at *
    induction r with
    | nil => exact .nil
    | @cons p q ps qs h t' ih =>
      rw [List.map_cons, List.map_cons]
      refine .cons ?_ ih
      obtain ⟨h1, h2, h3⟩ := h
      unfold putAt
      by_cases e : p.1 = k
      · have e' : q.1 = k := by rw [← h1]; exact e
        rw [if_pos e, if_pos e']
        exact ⟨h1, h2, t, rfl⟩
      · have e' : ¬ q.1 = k := by rw [← h1]; exact e
        rw [if_neg e, if_neg e']
        exact ⟨h1, h2, h3⟩
  · rw [if_neg q, if_neg q]
    exact Paired.snoc r ⟨rfl, rfl, t, rfl⟩
theorem dRel.keys {L : DL} {xs : List (List Int × Addr × Value)} (r : dRel L xs) : L.map (·.1) = xs.map (·.1) := by
  unfold dRel at r
  induction r with
  | nil => rfl
  | cons h _ ih => rw [List.map_cons, List.map_cons, ih, h.1]

section
variable {X : Cx} {pins : List (Addr × Obj)} {σ : L2.St} {H : Hp} {s : Shared} {a b : Addr} {L : DL} {k : List Int}
theorem keyT (I : Inv X pins σ H s) (h : SqT X.K H b (k.map V.int)) : (tupleKind (intKind X.prog X.w)).is s.heap k b := by
  obtain ⟨its, rv, ⟨o, h1, h2, n, h3⟩, _⟩ := I.tuple h
  refine ⟨o, its.toArray, n, h1, h2, h3, ?_⟩
  have key : ∀ {k : List Int} {us : List Value}, Vals (k.map V.int) us → ItemsAre (intKind X.prog X.w) k us := by
    intro k
    induction k with
    | nil => intro us r; rw [List.map_nil] at r; cases r; exact .nil
    | cons n k ih =>
      intro us r
      rw [List.map_cons] at r
      cases r with
      | cons r t =>
        obtain ⟨tk, rfl⟩ := r
        exact .cons (intKind_is X.prog X.w n tk) (ih t)
  simpa using key rv
theorem dr_of (I : Inv X pins σ H s) (e : H a = some (DRO X.prog X.w a L)) (hk : Keys X.K H L) : L.length ≤ sizeLine ∧ (a == sysModules) = false ∧ ∃ xs, dRel L xs ∧ s.heap.DictOfH (tupleKind (intKind X.prog X.w)) a xs := by
  obtain ⟨⟨h1, h2, xs, r, o, es, ep, e1, e2, e3, e4, e5⟩, _⟩ := (show ObjOk X.prog X.w H s.heap a (DRO X.prog X.w a L) from I.hok a _ e)
  refine ⟨h1, h2, xs, r, o, es, ep, e1, e2, e3, e4, ?_, e5⟩
  have all : ∀ {L : DL} {xs : List (List Int × Addr × Value)}, dRel L xs → Keys X.K H L → ∀ x ∈ xs, (tupleKind (intKind X.prog X.w)).is s.heap x.1 x.2.1 := by
    intro L xs r
    unfold dRel at r
    induction r with
    | nil => intro _ x hx; exact nomatch hx
    | @cons p q ps qs h t ih =>
      intro hk x hx
      rcases List.mem_cons.mp hx with e | hx
      · subst e
        rw [← h.1, ← h.2.1]
        exact keyT I (hk p (List.mem_cons_self ..))
      · exact ih (fun y hy => hk y (List.mem_cons_of_mem _ hy)) x hx
  exact all r hk
theorem dr_new {P : Program} {w : World} {H' : Hp} {h' : Heap} {xs : List (List Int × Addr × Value)} (z : L.length ≤ sizeLine) (hd : (a == sysModules) = false) (r : dRel L xs) (dd : h'.DictOfH (tupleKind (intKind P w)) a xs) : ObjOk P w H' h' a (DRO P w a L) := by
  obtain ⟨o, es, ep, e1, e2, e3, e4, _, e5⟩ := dd
  refine ⟨⟨z, hd, xs, r, o, es, ep, e1, e2, e3, e4, e5⟩, ⟨o, e1⟩, fun h1 h2 q k => ?_⟩
  obtain ⟨z, hd, xs, r, o, es, ep, e1, e2⟩ := q
  exact ⟨z, hd, xs, r, o, es, ep, k o e1, e2⟩
/-- a key stands elsewhere -/
theorem key_upd {P : Program} {w : World} {K : PySem.W.Frag} {xs : List V} {L0 : DL} {o : HO} (e : H a = some (DRO P w a L0)) (h : SqT K H b xs) : SqT K (upd H a o) b xs := by
  rcases h with (h | ⟨ob, h⟩) | h
  · refine .inl (.inl ?_)
    rw [upd_ne (ne_of h e (fun z => by cases z))]
    exact h
  · refine .inl (.inr ⟨ob, ?_⟩)
    rw [upd_ne (ne_of h e (fun z => by cases z))]
    exact h
  · exact .inr h
theorem Keys.upd {P : Program} {w : World} {K : PySem.W.Frag} {L0 : DL} {o : HO} (e : H a = some (DRO P w a L0)) (h : Keys K H L) : Keys K (L2.upd H a o) L := fun p hp => key_upd e (h p hp)
theorem Keys.same {K : PySem.W.Frag} {H' : Hp} (e : Same H H') (h : Keys K H L) : Keys K H' L := fun p hp => sameT e (h p hp)
end

/-! ### rules -/
def tNewR (X : Cx) : TE := fun _ H Q => ∀ p, H p = none → Q (.ref p) (upd H p (DRO X.prog X.w p []))
theorem pe_newR {X : Cx} {pos : Pos} : PE X (.Dict [] [] pos) (tNewR X) := ⟨fun pins s σ H Q I h =>
  wpAny_Dict_empty ⟨.ref s.heap.objs.size, _, I.laid (a := s.heap.objs.size) (o := DRO X.prog X.w s.heap.objs.size []) (t' := s.toks) (fun _ _ q => Heap.get?_push_of_some _ q) (Nat.le_refl _)
    (dr_new (Nat.zero_le _) (beq_eq_false_iff_ne.mpr (Ne.symm (Nat.ne_of_lt I.big))) .nil (Heap.DictOfH.new s.heap)), rfl, h _ (I.hok.fresh (Nat.le_refl _))⟩⟩
/-- {e: e'} -/
def tOneR (X : Cx) (tk tv : TE) : TE := fun σ H Q => ∀ p, H p = none → tk σ (upd H p (DRO X.prog X.w p [])) fun x H1 => tv σ H1 fun y H2 => H2 p = some (DRO X.prog X.w p []) ∧ ∃ b k i, x = .ref b ∧ SqT X.K H2 b (k.map V.int) ∧ y = .int i ∧ Q (.ref p) (upd H2 p (DRO X.prog X.w p [(k, b, i)]))
theorem pe_oneR {X : Cx} {pos : Pos} {ke ve : Expr} {tk tv : TE} (hu : X.A.units + 1 < cLine) (hk : PE X ke tk) (hv : PE X ve tv) : PE X (.Dict [some ke] [ve] pos) (tOneR X tk tv) := by
  refine ⟨fun pins s σ H Q I q => ?_⟩
  have hn := I.hok.fresh (Nat.le_refl s.heap.objs.size)
  have I1 := I.laid (a := s.heap.objs.size) (o := DRO X.prog X.w s.heap.objs.size []) (h' := s.heap.push { cls := .type "dict", data := .dict #[] }) (t' := s.toks) (fun _ _ q => Heap.get?_push_of_some _ q) (Nat.le_refl _)
    (dr_new (Nat.zero_le _) (beq_eq_false_iff_ne.mpr (Ne.symm (Nat.ne_of_lt I.big))) .nil (Heap.DictOfH.new s.heap))
  rw [arm_eval_Dict, zip_pairTrees [some ke] [ve] X.env pos rfl rfl, dictDisplay_pairs (pairTrees [some ke] [ve] X.env pos) (by intro h; have := congrArg List.length h; rw [pairTrees_length _ _ _ _ rfl rfl] at this; cases this) (by rw [pairTrees_length _ _ _ _ rfl rfl]; exact (by decide : 1 < 17))]
  refine wpAny_bind (wpAny_standAt (wpAny_bind (wpAny_subDictH (knd := tupleKind (intKind X.prog X.w)) (Q := fun d s' => wpAny (model X.prog X.w) X.A (pure (Value.ref d)) (EP X pins σ Q) X.xe s') (show X.A.units < cLine by omega) (by rw [pairTrees_length _ _ _ _ rfl rfl]; exact (by decide : 1 ≤ 15)) ?_)))
  refine pairTrees_cons_walk (thn (hk.run pins _ σ _ _ I1 (q _ hn)) fun u s1 ⟨x, H1, I2, rx, q1⟩ => thn (hv.run pins s1 σ H1 _ I2 q1) fun u2 s2 ⟨y, H2, I3, ry, e, b, k, i, ex, hb, ey, q2⟩ => pairTrees_nil_walk ?_)
  subst ex ey
  obtain rfl : u = Value.ref b := rx
  obtain ⟨t, rfl⟩ := ry
  obtain ⟨_, hd, xs, r, dd⟩ := dr_of I3 e (fun p hp => nomatch hp)
  cases r
  refine ⟨[(k, b, .int i t)], ⟨rfl, rfl, keyT I3 hb, trivial⟩, dd, fun h' tk' dd' hs => wpAny_pure ⟨.ref s.heap.objs.size, _, ?_, rfl, q2⟩⟩
  have he : ∃ q, h'.get? s.heap.objs.size = some q := let ⟨q, _, _, hq, _⟩ := dd'; ⟨q, hq⟩
  have dd2 : h'.DictOfH (tupleKind (intKind X.prog X.w)) s.heap.objs.size [(k, b, .int i t)] := dd'
  exact d_write I3 (by rw [e]; exact True.intro) hs he (dr_new (show 1 ≤ sizeLine by decide) hd (.cons ⟨rfl, rfl, t, rfl⟩ .nil) dd2)
/-- d[k], there -/
def tGetR (X : Cx) (td ty : TE) : TE := fun σ H Q => td σ H fun x H1 => ty σ H1 fun y H2 => ∃ a L b k v, x = .ref a ∧ H2 a = some (DRO X.prog X.w a L) ∧ Keys X.K H2 L ∧ y = .ref b ∧ SqT X.K H2 b (k.map V.int) ∧ dget (era L) k = some v ∧ Q (.int v) H2
theorem pe_getR {X : Cx} {o i : Expr} {pos : Pos} {td ty : TE} (hu : X.A.units + 1 < cLine) (ho : PE X o td) (hi : PE X i ty) (hs : NoSl i) : PE X (.Subscript o i pos) (tGetR X td ty) := by
  refine ⟨fun pins s σ H Q I h => ?_⟩
  refine subD_of PySem.F.slot_dict_getitem.lookup hs (thn (ho.run pins s σ H _ I h) fun u s1 ⟨x, H1, I1, rx, q1⟩ => thn (hi.run pins s1 σ H1 _ I1 q1) fun iv s2 ⟨y, H2, I2, ry, a, L, b, k, v, ex, e, hk, ey, hb, hv, q2⟩ => ?_)
  subst ex ey
  obtain rfl : u = Value.ref a := rx
  obtain rfl : iv = Value.ref b := ry
  obtain ⟨z, hd, xs, r, dd⟩ := dr_of I2 e hk
  obtain ⟨p, t, hp, hp2⟩ := (r.val k).1 v hv
  refine ⟨dd.typeIs, wpAny_getItem_heap (tupleKind_room_in1 hu) (keyT I2 hb) dd hp ?_⟩
  rw [hp2]
  exact ⟨.int v, H2, I2.tok _, ⟨t, rfl⟩, q2⟩
/-- d[k] = v -/
def tPutR (X : Cx) (td ty tv : TE) : TS := fun D σ H => tv σ H fun v H1 => td σ H1 fun x H2 => ty σ H2 fun y H3 => ∃ a L b k i, v = .int i ∧ x = .ref a ∧ H3 a = some (DRO X.prog X.w a L) ∧ Keys X.K H3 L ∧ y = .ref b ∧ SqT X.K H3 b (k.map V.int) ∧ L.length < sizeLine ∧ D.nx σ (upd H3 a (DRO X.prog X.w a (storeL L k b i)))
theorem ps_putR {X : Cx} {o i value : Expr} {pos pos' : Pos} {td ty tv : TE} (hu : X.A.units + 1 < cLine) (ho : PE X o td) (hi : PE X i ty) (hv : PE X value tv) (hs : swapsWith value (some (.Subscript o i pos')) pos.line X.env = pure false) :
    PS X (.Assign [.Subscript o i pos'] value pos) (tPutR X td ty tv) := by
  refine ⟨fun pins s σ H D I h => ?_⟩
  refine wpAny_Assign_Subscript (thn (hv.run pins s σ H _ I h) fun r s1 ⟨v, H1, I1, rv, q1⟩ => thn (ho.run pins s1 σ H1 _ I1 q1) fun u s2 ⟨x, H2, I2, rx, q2⟩ => thn (hi.run pins s2 σ H2 _ I2 q2) fun iv s3 ⟨y, H3, I3, ry, a, L, b, k, i, ev, ex, e, hk, ey, hb, hl, q3⟩ => ?_) hs
  subst ev ex ey
  obtain rfl : u = Value.ref a := rx
  obtain rfl : iv = Value.ref b := ry
  obtain ⟨t, rfl⟩ := rv
  obtain ⟨z, hd, xs, rel, dd⟩ := dr_of I3 e hk
  have hz : xs.length ≤ sizeLine := by rw [← pLen rel]; exact z
  refine wpAny_setItem_heap (hsz := hz) (tupleKind_room_in1 hu) (keyT I3 hb) dd fun h' dd' hs' => ⟨σ, _, ?_, q3⟩
  have he : ∃ q, h'.get? a = some q := let ⟨q, _, _, hq, _⟩ := dd'; ⟨q, hq⟩
  exact d_write I3 (by rw [e]; exact True.intro) hs' he (dr_new (by have := storeL_len k b i L; omega) hd (rel.put k b i t) dd')
/-- d.get(k, i) -/
def tGet2R (X : Cx) (td ty tx : TE) : TE := fun σ H Q => td σ H fun x H1 => ∃ a L, x = .ref a ∧ H1 a = some (DRO X.prog X.w a L) ∧ Keys X.K H1 L ∧ ty σ H1 fun y H2 => tx σ H2 fun z H3 => ∃ b k i, y = .ref b ∧ SqT X.K H3 b (k.map V.int) ∧ z = .int i ∧ H3 a = some (DRO X.prog X.w a L) ∧ Keys X.K H3 L ∧ Q (.int ((dget (era L) k).getD i)) H3
theorem pe_get2R {X : Cx} {o e f : Expr} {apos cpos : Pos} {td ty tx : TE} (hu : X.A.units + 1 < cLine) (ho : PE X o td) (he : PE X e ty) (hf : PE X f tx) (m : M2 X o "get" apos e f cpos) : PE X (.Call (.Attribute o "get" apos) [e, f] [] cpos) (tGet2R X td ty tx) := by
  refine ⟨fun pins s σ H Q I h => ?_⟩
  refine wpAny_Call_method m.base m.few m.line PySem.F.plainAttrs_dict PySem.F.slot_dict_get PySem.F.type_dict_get (thn (ho.run pins s σ H _ I h) fun u s1 ⟨x, H1, I1, rx, a, L, ex, ea, hk, q1⟩ => ?_)
  subst ex
  obtain rfl : u = Value.ref a := rx
  obtain ⟨_, hd0, xs0, _, dd0⟩ := dr_of I1 ea hk
  refine ⟨dd0.typeIs, fun b q => ?_, ?_⟩
  · cases q
    obtain ⟨ob, _, _, h1, h2, _⟩ := dd0
    exact ⟨ob, h1, h2.2.1⟩
  rw [m.trees]
  refine Calls.callWith_builtin rfl (Calls.evalArgs_plain (Calls.spliced_cons (thn (he.run pins s1 σ H1 _ I1 q1) fun iv s2 ⟨y, H2, I2, ry, q2⟩ =>
    Calls.spliced_cons (thn (hf.run pins s2 σ H2 _ I2 q2) fun fv s3 ⟨z, H3, I3, rz, b, k, i, ey, hb, ez, ea3, hk3, q3⟩ => Calls.spliced_nil ?_))))
  subst ey ez
  obtain rfl : iv = Value.ref b := ry
  obtain ⟨t, rfl⟩ := rz
  obtain ⟨_, hd, xs, r, dd⟩ := dr_of I3 ea3 hk3
  refine call_meetsIn PySem.F.slot_dict_get dd.typeIs PySem.F.entry_dict_get (PySem.F.args_dict_get_3 _ _ _) (meetsH_dict_get_default (tupleKind (intKind X.prog X.w)) a b hd (.int i t)) ⟨tupleKind_room_in1 hu, k, xs, keyT I3 hb, dd, ?_⟩
  cases hv : dget (era L) k with
  | none =>
    rw [(r.val k).2 hv]
    rw [hv] at q3
    exact ⟨.int i, H3, I3.tok _, ⟨t, rfl⟩, q3⟩
  | some v =>
    obtain ⟨p, t', hp, hp2⟩ := (r.val k).1 v hv
    rw [hp]
    rw [hv] at q3
    refine ⟨.int v, H3, I3.tok _, ⟨t', ?_⟩, q3⟩
    exact hp2
/-- dict(d) -/
def tupHash (k : List Int) : Int := reduceHash (Builtin.Tuple.tupleHashOf (k.map hashInt))
def hashOk (M : List (List Int × Int)) : Prop := (M.map fun p => tupHash p.1).Nodup
def rCopyR (X : Cx) : List V → Hp → VK → Prop := fun vs H Q => ∃ (a : Addr) (L : DL), vs = [V.ref a] ∧ H a = some (DRO X.prog X.w a L) ∧ Keys X.K H L ∧ hashOk (era L) ∧ ∀ p, H p = none → Q (.ref p) (upd H p (DRO X.prog X.w p L))
theorem call_dictH {prog : Program} {w : World} {K : Type} [DecidableEq K] {knd : HeapKind prog w K} {A : Around} {E : Value → Shared → Prop} {s : Shared} {o : Addr} {more : List (K × Addr × Value)} {Q : Value → Shared → Prop} (hu : ∀ A' : Around, A'.units ≤ A.units + 8 → knd.room A') (hoS : (o == sysModules) = false) (ho : s.heap.DictOfH knd o more) (hsz : more.length ≤ sizeLine)
    (hty : ∀ x ∈ more, s.TypeIs (.ref x.2.1) "tuple") (hap : (more.map fun x => knd.hash x.1).Nodup) (hst : ∀ h' : Heap, (∀ b o, s.heap.get? b = some o → h'.get? b = some o) → ∀ x ∈ more, knd.is h' x.1 x.2.1)
    (h : ∀ h', h'.DictOfH knd s.heap.objs.size more → Heap.SameBut s.heap.objs.size (s.heap.push { cls := .type "dict", data := .dict #[] }) h' → Q (.ref s.heap.objs.size) { s with heap := h' }) :
    wpAny (model prog w) A (call (.type "dict") [.ref o]) Q E s := by
  refine callType_codes (Q₁ := fun obj s₁ => obj = .ref s.heap.objs.size ∧ s₁ = { s with heap := s.heap.push { cls := .type "dict", data := .dict #[] } }) F.kt_called_dict (F.kt_typeCall_dict_1 _) F.entry_dict_init (kt_code_dict_new _ ⟨rfl, rfl⟩) ?_
  rintro obj s₁ ⟨rfl, rfl⟩
  have hnew : (s.heap.push { cls := .type "dict", data := .dict #[] }).DictOfH knd s.heap.objs.size [] := Heap.DictOfH.new s.heap
  have ho' : (s.heap.push { cls := .type "dict", data := .dict #[] }).DictOfH knd o more := by
    obtain ⟨oo, es, ep, h1, h2, h3, h4, h5, h6⟩ := ho
    exact ⟨oo, es, ep, Heap.get?_push_of_some _ h1, h2, h3, h4, hst _ fun b o q => Heap.get?_push_of_some _ q, h6⟩
  have hn : (more.map (·.1)).Nodup := ho.nodup
  have hdo : s.heap.objs.size ≠ o := by
    obtain ⟨_, _, _, hg, _⟩ := ho
    exact fun e => absurd (Heap.lt_size hg) (by rw [e]; exact Nat.lt_irrefl _)
  refine ⟨hnew.typeIs, F.args_dict_init_2 _ _, ?_⟩
  unfold Builtin.«dict.__init__»
  refine wpAny_bind ?_
  unfold Builtin.Dict.selfAndRest
  refine wpAny_bind (wpAny_notOrdered_dict hnew.typeIs ?_)
  show wpAny _ _ (pure (s.heap.objs.size, [Value.ref o])) _ _ _
  refine wpAny_pure ?_
  show wpAny _ _ (Builtin.Dict.updateFrom "dict.__init__" s.heap.objs.size (.ref o) [] .none) _ _ _
  unfold Builtin.Dict.updateFrom
  refine wpAny_bind (wpAny_typeOf ho'.typeIs ?_)
  rw [if_neg (by decide)]
  refine wpAny_bind ?_
  unfold Builtin.Dict.merge
  refine wpAny_bind ?_
  unfold Builtin.Dict.readDirectly
  refine wpAny_bind (wpAny_isInstance ho'.typeIs isSubtype_dict_dict ?_)
  simp only [Bool.not_true, Bool.false_eq_true, if_false]
  refine wpAny_bind (wpAny_specialOf ho'.typeIs F.slot_dict_iter.lookup (wpAny_pure ?_))
  simp only [beq_self_eq_true, if_true]
  refine wpAny_bind (wpAny_pure ?_)
  refine wpAny_mergeDict_heap (hsz := by simpa using hsz) (hu _ ?_) hdo hoS hnew ho' (.inr ⟨fun x hx => ?_, hap⟩) fun h' hd' _ hs' => ?_
  · show A.units + 1 + 1 ≤ A.units + 8
    omega
  · obtain ⟨ob, e1, e2⟩ := hty x hx
    exact ⟨ob, Heap.get?_push_of_some _ e1, e2⟩
  · show wpAny _ _ (Builtin.Dict.addKeywords s.heap.objs.size [] >>= _) _ _ _
    rw [storedAllH_nil_of_nodup more hn] at hd'
    exact wpAny_bind (wpAny_pure (wpAny_pure ⟨rfl, h h' hd' hs'⟩))
theorem cr_copyR {X : Cx} (hu : X.A.units + 64 < cLine) : CallR X (.type "dict") (rCopyR X) := by
  intro pins s σ H vs us Q I r h
  obtain ⟨a, L, rfl, e, hk, hh, q⟩ := h
  rw [Vals.ref1 r]
  obtain ⟨z, hd, xs, rel, dd⟩ := dr_of I e hk
  obtain ⟨o0, es0, ep0, _, _, _, _, his, _⟩ := id dd
  have hl : xs.length = L.length := (pLen rel).symm
  refine call_dictH (knd := tupleKind (intKind X.prog X.w)) (fun A' hA => show A'.units < cLine by omega) hd dd (by rw [hl]; exact z) (fun x hx => ?_) ?_ (fun h' k x hx => ?_) fun h' dd' hs => ?_
  · obtain ⟨o, items, n, h1, h2, _⟩ := his x hx
    exact ⟨o, h1, h2⟩
  · have e1 : (xs.map fun x => (tupleKind (intKind X.prog X.w)).hash x.1) = (era L).map fun p => tupHash p.1 := by
      have e2 := rel.keys
      have e3 : (xs.map fun x => (tupleKind (intKind X.prog X.w)).hash x.1) = (xs.map (·.1)).map tupHash := by rw [List.map_map]; rfl
      rw [e3, ← e2]
      unfold era
      rw [List.map_map, List.map_map]
      rfl
    rw [e1]
    exact hh
  · obtain ⟨o, items, n, h1, h2, h3⟩ := his x hx
    exact ⟨o, items, n, k _ _ h1, h2, h3⟩
  · refine ⟨.ref s.heap.objs.size, _, I.laid (a := s.heap.objs.size) (o := DRO X.prog X.w s.heap.objs.size L) (t' := s.toks) (fun b q hq => ?_) (Nat.le_refl _) (dr_new z (beq_eq_false_iff_ne.mpr (Ne.symm (Nat.ne_of_lt I.big))) rel dd'), rfl, q _ (I.hok.fresh (Nat.le_refl _))⟩
    exact (hs.2 b (Nat.ne_of_lt (Heap.lt_size hq))).trans (Heap.get?_push_of_some _ hq)
theorem readsInts {h : Heap} : ∀ (ns : List Int) (vs : List Value) (as : List Addr), ReadsAll h vs (ns.map PyData.int) as → as = []
  | [], _, _, r => by
    cases r
    rfl
  | n :: ns, _, _, r => by
    rw [List.map_cons] at r
    cases r with
    | cons r1 r2 =>
      cases r1
      rw [readsInts ns _ _ r2]
      rfl
theorem readsP {h : Heap} {u : Value} {b : List Int} {as : List Addr} (r : Reads h u (encP b) as) : as = [] := by
  cases r with
  | tuple _ _ _ r => exact readsInts b _ _ r
/-- sorted(d) -/
def rSortR (X : Cx) : List V → Hp → VK → Prop := fun vs H Q => ∃ (a : Addr) (L : DL), vs = [V.ref a] ∧ H a = some (DRO X.prog X.w a L) ∧ Keys X.K H L ∧ (2 ≤ L.length → ∀ p ∈ L, p.1 ≠ []) ∧
  ∀ (ys : List V) (p : Addr), Paired (IsP X.K H) ys (isort le1 (L.map (·.1))) → H p = none → Q (.ref p) (upd H p (.lst ys))
theorem cr_sortR {X : Cx} (hc : X.calm = true) (hu : X.A.units + 64 < cLine) : CallR X (.builtin "sorted") (rSortR X) := by
  intro pins s σ H vs us Q I r h
  obtain ⟨a, L, rfl, e, hk, hne, q⟩ := h
  rw [Vals.ref1 r]
  obtain ⟨z, hd, xs, rel, o, es, ep, e1, e2, e3, e4, e5, e6⟩ := dr_of I e hk
  have hsz : es.size = L.length := by
    have := congrArg List.length e4
    rw [Array.length_toList, List.length_map, ← pLen rel] at this
    exact this
  refine Calls.call_function_entry kind_sorted plain_sorted entry_sorted (args_sorted1 _) ?_
  unfold Builtin.«sorted»
  refine wpAny_bind (m := checkCount "sorted" 1 1 _) (wpAny_pure ?_)
  refine wpAny_bind (PySem.W.kdu_collect (A := X.A.in1) (KdlSrc.rawDict (es := es) (ep := ep) hd) (I.ok.hd hc) ⟨o, e1, e2, e3⟩ (by rw [hsz]; exact z) fun h' tk acc hkp hacc => ?_)
  have hal : acc.toList.length = L.length := by rw [Array.length_toList, hacc.1, hsz]
  refine wpAny_bind (wpAny_newList ?_ (by rw [hal]; exact z))
  have I1 : Inv X pins σ H { s with heap := h', toks := tk } := I.kept hkp
  have I2 : Inv X pins σ H { s with heap := h'.push { cls := .type "list", data := .seq acc.toList.toArray }, toks := tk } := I1.kept (t' := tk) fun b o q => Heap.get?_push_of_some _ q
  have hoL : (h'.push { cls := .type "list", data := .seq acc.toList.toArray }).get? h'.objs.size = some (seqObj "list" acc.toList.toArray 0) := Heap.get?_push_size _ rfl
  have eacc : acc.toList = L.map fun p => Value.ref p.2.1 := by
    refine List.ext_getElem? fun j => ?_
    rw [List.getElem?_map]
    by_cases hj : j < L.length
    · obtain ⟨q, hq, _, hq2, _⟩ := pAt rel (List.getElem?_eq_getElem hj)
      have hja : j < acc.size := by rw [hacc.1, hsz]; exact hj
      obtain ⟨hi, hv⟩ := hacc.2 j acc[j] (by simp [hja])
      have e7 : es[j] = entryOfKey (tupleKind (PySem.intKind X.prog X.w)) q := by
        have e8 : es.toList[j]? = some es[j] := by simp [hi]
        rw [e4, List.getElem?_map, hq] at e8
        exact (Option.some.inj e8).symm
      have e9 : acc.toList[j]? = some acc[j] := by simp [hja]
      rw [e9, hv, e7, List.getElem?_eq_getElem hj, Option.map_some, hq2]
      rfl
    · rw [List.getElem?_eq_none (by rw [hal]; omega), List.getElem?_eq_none (by omega)]
      rfl
  have rv : Vals (L.map fun p => V.ref p.2.1) acc.toList := by
    rw [eacc]
    have : ∀ l : DL, Vals (l.map fun p => V.ref p.2.1) (l.map fun p => Value.ref p.2.1) := fun l => by
      induction l with
      | nil => exact .nil
      | cons p r ih => exact .cons rfl ih
    exact this L
  have hp : Paired (IsP X.K H) (L.map fun p => V.ref p.2.1) (L.map (·.1)) := by
    have : ∀ l : DL, Keys X.K H l → Paired (IsP X.K H) (l.map fun p => V.ref p.2.1) (l.map (·.1)) := fun l => by
      induction l with
      | nil => intro _; exact .nil
      | cons p r ih => intro hk; exact .cons ⟨_, rfl, hk p (List.mem_cons_self ..)⟩ (ih fun y hy => hk y (List.mem_cons_of_mem _ hy))
    exact this L hk
  have fin : ∀ out : List Value, (∃ ys, Vals ys out ∧ Paired (IsP X.K H) ys (isort le1 (L.map (·.1)))) → EP X pins σ Q (.ref h'.objs.size) { s with heap := sortedHeap (h'.push { cls := .type "list", data := .seq acc.toList.toArray }) h'.objs.size acc.toList out.toArray, toks := tk } := by
    rintro out ⟨ys, h1, h2⟩
    obtain ⟨ep', he'⟩ := PyProof.Rows.sortedHeap_at (vs := acc.toList) (out := out.toArray) hoL
    have hl2 : ys.length ≤ sizeLine := by
      rw [pLen h2, (isort_perm _).length_eq, List.length_map]
      exact z
    refine ⟨.ref h'.objs.size, L2.upd H h'.objs.size (.lst ys), I1.laid (t' := tk) (a := h'.objs.size) (fun b u hu => ?_) (Nat.le_refl _) ⟨hl2, out, ep', h1, he'⟩, rfl, q ys _ h2 (I1.hok.fresh (Nat.le_refl _))⟩
    have hlt : b < h'.objs.size := Heap.lt_size hu
    rw [PyProof.Rows.sortedHeap_old (Nat.ne_of_lt hlt) (by rw [Heap.size_push]; exact Nat.lt_succ_of_lt hlt)]
    exact Heap.get?_push_of_some _ hu
  by_cases h2 : 2 ≤ L.length
  · have hne' := hne h2
    have er : PySem.W.EachIs (fun u b => ∃ as, Reads (h'.push { cls := .type "list", data := .seq acc.toList.toArray }) u (encP b) as ∧ h'.objs.size ∉ as) acc.toList (L.map (·.1)) := (eachOf (X := X) rv hp).mono fun u b ⟨v, r1, r2⟩ => by
        obtain ⟨as, r3⟩ := Dp.reads I2 _ v u r2.dp r1
        have e0 := readsP r3
        subst e0
        exact ⟨[], r3, by simp⟩
    refine wpAny_bind (wpAny_holding (PySem.W.list_sort_data (A := X.A.in1) (enc := encP) (bs := L.map (·.1)) (R := fun u b => ∃ v, RelV v u ∧ IsP X.K H v b) hoL (eachOf (X := X) rv hp) er (PySem.W.AllAlike.of alikeP) (.inl fun d hd => ?_) (by rw [List.length_map]; exact z) (fun b _ => ?_) fun out _ ho => ?_))
    · obtain ⟨b, hb, rfl⟩ := List.mem_map.mp hd
      obtain ⟨p, hp', rfl⟩ := List.mem_map.mp hb
      exact ordP.tup _ (hne' p hp')
    · have := depthP b
      show X.A.units + 1 + 1 + (encP b).depth < cLine
      omega
    · have e5 := merge_isort ordP (L.map (·.1))
      have ho2 : PySem.W.EachIs (fun u b => ∃ v, RelV v u ∧ IsP X.K H v b) out (isort le1 (L.map (·.1))) := by
        have e6 : isort le1 (L.map (·.1)) = (L.map (·.1)).mergeSort (PySem.W.dataLe false encP) := e5.symm
        rw [e6]
        exact ho
      exact wpAny_pure ⟨_, rfl, fin out (ofEach ho2)⟩
  · refine wpAny_bind (wpAny_holding (wpAny_call_entry slot_list_sort ⟨_, hoL, rfl⟩ entry_list_sort (SrtO.list_sort_ord (A := X.A.in1.in1) (ltv := fun _ _ => false) ⟨fun _ _ _ => rfl, fun _ _ _ _ _ => rfl⟩ hoL (by rw [hal]; exact z) (fun h3 => absurd (by rw [← hal]; exact h3) h2) fun out _ hb => ⟨_, rfl, ?_⟩) (args_list_sort _)))
    refine wpAny_pure ⟨_, rfl, fin out ?_⟩
    have hL : L.length < 2 := by omega
    have e7 : isort le1 (L.map (·.1)) = L.map (·.1) := isort_short (by rw [List.length_map]; exact hL)
    rw [perm_short hb.perm (by omega), e7]
    exact ⟨_, rv, hp⟩
end K19

namespace K19
open PySem PySem.Spec PyProof.Rows L2
def topS (i : Nat) : Stmt := PySem.Challenge.pw_fivebases_k19_whole_counts_by_pairs.main.body.getD i (.Pass ⟨0, 0, 0, 0⟩)
/-! ### a def of the text as it stands behind the top, and its promise -/
structure Dfn (K : PySem.W.Frag) (mg : Str → Option Value) (x : Str) (st : Stmt) (ps : List Str) (dvs : List V) : Prop where
  ex : ∃ (f : Addr) (fd : FuncData) (ds : List Value) (oc : Value) (od : Option Addr) (dV kV doc pm : Value) (an : Option Addr) (cdv ct : Value) (osl : Array (Option Value)),
    fd = PySem.W.fnOf x x (defArgs st) (defBody st) (defScope st) dV kV doc pm an cdv ct ∧ K.lookup f = some ⟨oc, od, .func fd, osl⟩ ∧ PySem.W.codeIn K cdv x = true ∧ PySem.W.keepIn K (.ref f) = true ∧ mg x = some (.ref f) ∧ Binds K fd ps ds ∧ Vals dvs ds
structure Can (P : Program) (w : World) (K : PySem.W.Frag) (mg : Str → Option Value) (base : Heap) (k : Nat) (x : Str) (sp : Sp) (dvs : List V) : Prop where
  ex : ∃ (f : Addr) (fd : FuncData) (ps : List Str) (ds : List Value), FnOk P w K mg base CX0 k f fd ps sp ∧ mg x = some (.ref f) ∧ PySem.W.keepIn K (.ref f) = true ∧ Binds K fd ps ds ∧ Vals dvs ds
theorem Can.mono {P : Program} {w : World} {K : PySem.W.Frag} {mg : Str → Option Value} {base : Heap} {j k : Nat} {x : Str} {sp : Sp} {dvs : List V} (c : Can P w K mg base j x sp dvs) (h : j ≤ k) : Can P w K mg base k x sp dvs := by
  obtain ⟨f, fd, ps, ds, F, a, b, d, e⟩ := c.ex
  exact ⟨f, fd, ps, ds, F.mono h, a, b, d, e⟩
theorem Can.imp {P : Program} {w : World} {K : PySem.W.Frag} {mg : Str → Option Value} {base : Heap} {k : Nat} {x : Str} {sp sp' : Sp} {dvs : List V} (c : Can P w K mg base k x sp dvs) (h : ∀ vs H Q E, sp' vs H Q E → sp vs H Q E) : Can P w K mg base k x sp' dvs := by
  obtain ⟨f, fd, ps, ds, F, a, b, d, e⟩ := c.ex
  exact ⟨f, fd, ps, ds, F.imp h, a, b, d, e⟩
theorem Dfn.can {P : Program} {w : World} {K : PySem.W.Frag} {mg : Str → Option Value} {base : Heap} {k : Nat} {x : Str} {st : Stmt} {N ps : List Str} {sp : Sp} {dvs : List V} (F : Dfn K mg x st ps dvs) (S : FnScope N ps (defScope st)) (len : ∀ vs H Q E, sp vs H Q E → vs.length = ps.length)
    (hbody : ∀ (f : Addr) (cdv : Value) (A : Around) (outer : List Env) (s : Shared) (H : Hp) (vs : List V) (Q : VK) (E : XK), Room k (A.deeper (envOfC x (defScope st) s.heap.objs.size f cdv)) → sp vs H Q E →
      ∃ t, PSs (cxOf CX0 P w K mg base N x (defScope st) f cdv A outer s H E).nox (defBody st) t ∧ t { nx := fun _ H' => Q .non H', rt := Q } (start N vs) H) : Can P w K mg base (k + 1) x sp dvs := by
  obtain ⟨f, fd, ds, oc, od, dV, kV, doc, pm, an, cdv, ct, osl, rfl, lk, hcd, kp, hm, b, d⟩ := F.ex
  refine ⟨f, _, ps, ds, fn_of lk hcd S len fun A outer s H vs Q E hr hsp => ?_, hm, kp, b, d⟩
  obtain ⟨t, h, q⟩ := hbody f cdv A outer s H vs Q E hr hsp
  exact ⟨t, h.nox, q⟩
theorem none_left {P : Program} {w : World} {K : PySem.W.Frag} {mg : Str → Option Value} {base : Heap} {x : Str} {st : Stmt} {ps : List Str} {sp : Sp} {dvs : List V} (F : Dfn K mg x st ps dvs) (no : ∀ vs H Q E, ¬ sp vs H Q E) : Can P w K mg base 0 x sp dvs := by
  obtain ⟨f, fd, ds, oc, od, dV, kV, doc, pm, an, cdv, ct, osl, rfl, lk, hcd, kp, hm, b, d⟩ := F.ex
  exact ⟨f, _, ps, ds, ⟨fun vs H Q E h => absurd h (no vs H Q E), fun A outer s H args us vs Q E _ _ _ _ h => absurd h (no vs H Q E)⟩, hm, kp, b, d⟩
section
variable {X : Cx} {k j : Nat} {x : Str} {sp : Sp} {dvs : List V} {p pos : Pos} {e : Expr} {es : List Expr} {t : TA}
theorem pe_can (c : Can X.prog X.w X.K X.mg X.base k x sp dvs) (hr : Room j X.A) (hk : k ≤ j) (hg : Gl X x) (ha : PA X (e :: es) t)
    (hdb : (x == ("__debug__" : Str)) = false := by decide) (he : starEach (e :: es) X.env = (false, eval e X.env) :: starEach es X.env := by rfl) (hpl : (backTo pos (starEach es X.env)).any (·.1) = false := by rfl) :
    PE X (.Call (.Name x p) (e :: es) [] pos) (tCall sp dvs E0 t) := by
  obtain ⟨f, fd, ps, ds, F, hm, kp, b, d⟩ := c.ex
  exact pe_call F (hr.mono hk) hg hm kp b d pass0 ha hdb he hpl
end
/-! ### rules with the written part named (for comprehensions' blocks) -/
section
variable {X : Cx} {K : PySem.W.Frag}
theorem ixL (h : X.K = K) : IxR X (rIxL K) := h ▸ ix_list
theorem ixT (h : X.K = K) : IxR X (rIxT K) := h ▸ ix_tup
theorem lenK (h : X.K = K) : CallR X (.builtin "len") (fun xs H Q => ∃ p ys, xs = [.ref p] ∧ (SqL K H p ys ∨ SqT K H p ys) ∧ Q (.int ys.length) H) := h ▸ call_len_seq
theorem listK (h : X.K = K) : CallR X (.type "list") (fun xs H Q => ∃ p ys, xs = [.ref p] ∧ (SqL K H p ys ∨ SqT K H p ys) ∧ ∀ l, H l = none → Q (.ref l) (upd H l (.lst ys))) := h ▸ call_list_of
theorem tupleK (h : X.K = K) : CallR X (.type "tuple") (fun xs H Q => ∃ p ys, xs = [.ref p] ∧ ((SqL K H p ys ∧ ∀ l, H l = none → Q (.ref l) (upd H l (.tup ys))) ∨ (SqT K H p ys ∧ Q (.ref p) H))) := h ▸ call_tuple_of
theorem eqDK (h : X.K = K) (hu : X.A.units + 64 < cLine) : OpR X (compareOp .Eq) (rEqD K) := h ▸ op_eqD hu
theorem slTK (h : X.K = K) : SlR X (rSlA K) := h ▸ sl_tupA
theorem pgTK {es : List Expr} {kk : Nat} {pos : Pos} {t : TGs} {n : Nat} (h : X.K = K) (hc : X.calm = true) (hl : PGs X es t)
    (hn : (assignEach es X.env).length = n := by rfl) (hst : (assignEach es X.env).findIdx? (·.1) = none := by rfl) : PG X (.Tuple es kk pos) (gTup K n t) := h ▸ pg_tup hc hl hn hst
end
/-! ### what stays while lists are changed -/
structure Stay {α : Type} (R : Hp → V → α → Prop) : Prop where
  same : ∀ {H H' : Hp} {v : V} {x : α}, Same H H' → R H v x → R H' v x
  lst : ∀ {H : Hp} {D : Addr} {xs : List V} {o : HO} {v : V} {x : α}, H D = some (.lst xs) → R H v x → R (upd H D o) v x
theorem sqT_lst {K : PySem.W.Frag} {H : Hp} {D a : Addr} {xs ys : List V} {o : HO} (e : H D = some (.lst xs)) (h : SqT K H a ys) : SqT K (upd H D o) a ys := by
  rcases h with (h | ⟨ob, h⟩) | h
  · refine .inl (.inl ?_)
    rw [upd_ne (ne_of h e (fun z => by cases z))]
    exact h
  · refine .inl (.inr ⟨ob, ?_⟩)
    rw [upd_ne (ne_of h e (fun z => by cases z))]
    exact h
  · exact .inr h
def IsI (_ : Hp) (v : V) (i : Int) : Prop := v = .int i
/-- a tuple of items -/
def IsT {α : Type} (R : Hp → V → α → Prop) (K : PySem.W.Frag) (H : Hp) (v : V) (xs : List α) : Prop := ∃ a vs, v = .ref a ∧ SqT K H a vs ∧ Paired (R H) vs xs
/-- a list of items -/
def IsL {α : Type} (R : Hp → V → α → Prop) (K : PySem.W.Frag) (H : Hp) (v : V) (xs : List α) : Prop := ∃ a vs, v = .ref a ∧ SqL K H a vs ∧ Paired (R H) vs xs
theorem stayI : Stay IsI := ⟨fun _ h => h, fun _ h => h⟩
theorem stayP (K : PySem.W.Frag) : Stay (IsP K) := ⟨fun e h => h.same e, fun e h => by
  obtain ⟨a, rfl, h⟩ := h
  exact ⟨a, rfl, sqT_lst e h⟩⟩
theorem stayF (K : PySem.W.Frag) : Stay (IsF K) := ⟨fun e h => h.same e, fun e h => by
  obtain ⟨a, vs, rfl, h, p⟩ := h
  exact ⟨a, vs, rfl, sqT_lst e h, sameP p fun _ _ q => (stayP K).lst e q⟩⟩
theorem stayT {α : Type} {R : Hp → V → α → Prop} (S : Stay R) (K : PySem.W.Frag) : Stay (IsT R K) := ⟨fun e h => by
  obtain ⟨a, vs, rfl, h, p⟩ := h
  exact ⟨a, vs, rfl, sameT e h, sameP p fun _ _ q => S.same e q⟩, fun e h => by
  obtain ⟨a, vs, rfl, h, p⟩ := h
  exact ⟨a, vs, rfl, sqT_lst e h, sameP p fun _ _ q => S.lst e q⟩⟩
theorem Stay.all {α : Type} {R : Hp → V → α → Prop} (S : Stay R) {H H' : Hp} (e : Same H H') {vs : List V} {xs : List α} (h : Paired (R H) vs xs) : Paired (R H') vs xs := sameP h fun _ _ q => S.same e q
theorem Stay.allL {α : Type} {R : Hp → V → α → Prop} (S : Stay R) {H : Hp} {D : Addr} {ys : List V} {o : HO} (e : H D = some (.lst ys)) {vs : List V} {xs : List α} (h : Paired (R H) vs xs) : Paired (R (upd H D o)) vs xs := sameP h fun _ _ q => S.lst e q
theorem IsL.same {α : Type} {R : Hp → V → α → Prop} (S : Stay R) {K : PySem.W.Frag} {H H' : Hp} {v : V} {xs : List α} (e : Same H H') (h : IsL R K H v xs) : IsL R K H' v xs := by
  obtain ⟨a, vs, rfl, h, p⟩ := h
  exact ⟨a, vs, rfl, e.seq h, S.all e p⟩
/-- a list that is filled while a loop turns is changed at its own place alone -/
theorem same_upd_new {H0 H : Hp} {D : Addr} {o : HO} (h0 : H0 D = none) (e : Same H0 H) : Same H0 (upd H D o) := fun b u q => by
  rw [upd_ne (ne_of_none q h0)]
  exact e b u q
theorem sz {n : Nat} (h : n ≤ 1000000) : n < sizeLine := by
  rw [sizeLine_eq]
  omega
theorem sz' {n : Nat} (h : n ≤ 1000000) : n ≤ sizeLine := Nat.le_of_lt (sz h)
theorem fm_step {α : Type} (e : Nat → Option α) (i : Nat) : (List.range (i + 1)).filterMap e = (List.range i).filterMap e ++ (e i).toList := by
  rw [List.range_succ, List.filterMap_append]
  cases h : e i <;> simp [h]
/-- a comprehension: at each turn at most one item more (e: which), all that was tracked stays -/
theorem lc_pure {α : Type} {J : It} {n : Nat} {GG : Hp → Prop} {Y : Nat → Hp → V → Hp → Prop} (w : Walk J n GG Y) (R : Hp → V → α → Prop) (S : Stay R) (e : Nat → Option α)
    {g : TG} {tt : TT} {te : TE} {vs : List Nat} {σ : L2.St} {H1 : Hp} {D : Addr} {Qd : Hp → Prop} (hD : H1 D = none) (hn : n ≤ 1000000) (hG : ∀ H, Same H1 H → GG H)
    (hs : ∀ (i : Nat) (x : V) (H H' : Hp) (K1 : V → Hp → Prop) (K2 : Hp → Prop), i < n → Same H1 H → Y i H x H' → (∀ y z H4, Same H H4 → e i = some z → R H4 y z → K1 y H4) → (∀ H3, Same H H3 → e i = none → K2 H3) →
      g x (wipe σ vs) H' fun σ2 H2 => wipe σ2 vs = wipe σ vs ∧ tt σ2 H2 fun b H3 => if b = true then te σ2 H3 fun y H4 => K1 y H4 else K2 H3)
    (hd : ∀ (H : Hp) (acc : List V), Same H1 H → H D = some (.lst acc) → Paired (R H) acc ((List.range n).filterMap e) → Qd H) :
    ∃ W : Nat → Nat → Hp → Prop, (∃ m, W 0 m (upd H1 D (.lst []))) ∧ ∀ i m H, W i m H →
      (J.stop i H ∧ Qd H) ∨ (J.go i H ∧ ∃ Nx : Hp → Prop, (∀ H', Nx H' → ∃ m', m' < m ∧ W (i + 1) m' H') ∧ ∀ x H', J.yld i H x H' → g x (wipe σ vs) H' fun σ2 H2 => wipe σ2 vs = wipe σ vs ∧ tt σ2 H2 fun b H3 =>
        if b = true then te σ2 H3 fun y H4 => ∃ acc, H4 D = some (.lst acc) ∧ acc.length < sizeLine ∧ Nx (upd H4 D (.lst (acc ++ [y]))) else Nx H3) := by
  refine lc_it w (fun i H => Same H1 H ∧ ∃ acc, H D = some (.lst acc) ∧ acc.length ≤ i ∧ Paired (R H) acc ((List.range i).filterMap e)) ⟨same_new hD _, [], upd_same, Nat.le_refl _, .nil⟩ (fun i H _ p => hG H p.1) (fun i x H H' hi p y => ?_) (fun H p => ?_)
  · obtain ⟨s1, acc, hacc, hl, hp⟩ := p
    refine hs i x H H' _ _ hi s1 y (fun y z H4 s2 ez hr => ⟨acc, s2 _ _ hacc, sz (by omega), same_upd_new hD (s1.trans s2), acc ++ [y], upd_same, by rw [List.length_append]; exact Nat.succ_le_succ hl, ?_⟩) (fun H3 s2 ez => ⟨s1.trans s2, acc, s2 _ _ hacc, Nat.le_succ_of_le hl, ?_⟩)
    · rw [fm_step, ez]
      exact pApp (S.allL (s2 _ _ hacc) (S.all s2 hp)) (.cons (S.lst (s2 _ _ hacc) hr) .nil)
    · rw [fm_step, ez, Option.toList_none, List.append_nil]
      exact S.all s2 hp
  · obtain ⟨s1, acc, hacc, _, hp⟩ := p
    exact hd H acc s1 hacc hp
theorem walk_r0 {n : Nat} : Walk (Itr 0 n) n (fun _ => True) (fun i H x H' => H' = H ∧ x = .int (i : Nat)) :=
  ⟨fun _ _ hi _ => hi, fun _ _ => Nat.le_refl _, fun i _ _ _ _ _ y => ⟨y.1, by rw [y.2]; exact congrArg V.int (by omega)⟩⟩
theorem range_getD {α : Type} (a : List α) (d : α) : (List.range a.length).map (fun i => a.getD i d) = a := by
  refine List.ext_getElem? fun j => ?_
  rw [List.getElem?_map]
  by_cases h : j < a.length
  · rw [List.getElem?_range h, Option.map_some, List.getElem?_eq_getElem h]
    simp [List.getD, List.getElem?_eq_getElem h]
  · rw [List.getElem?_eq_none (by rw [List.length_range]; omega), List.getElem?_eq_none (by omega)]
    rfl
theorem fm_getD {α β : Type} (a : List α) (d : α) (f : α → Option β) : (List.range a.length).filterMap (fun i => f (a.getD i d)) = a.filterMap f := by
  have e := congrArg (List.filterMap f) (range_getD a d)
  rw [List.filterMap_map] at e
  exact e
theorem fm_filter {α : Type} (p : α → Bool) : ∀ a : List α, a.filterMap (fun x => if p x = true then some x else none) = a.filter p
  | [] => rfl
  | x :: r => by
    rw [List.filterMap_cons, List.filter_cons, fm_filter p r]
    cases p x <;> rfl
theorem fm_map {α β : Type} (f : α → β) : ∀ a : List α, a.filterMap (fun x => some (f x)) = a.map f
  | [] => rfl
  | x :: r => by rw [List.filterMap_cons, List.map_cons, fm_map f r]
theorem fm_len {α β : Type} (p : α → Bool) (f : α → β) : ∀ a : List α, (a.filterMap (fun x => if p x = true then some (f x) else none)).length = (a.filter p).length
  | [] => rfl
  | x :: r => by
    rw [List.filterMap_cons, List.filter_cons]
    have ih := fm_len p f r
    cases p x
    · exact ih
    · exact congrArg Nat.succ ih
theorem getI {a : List Int} {i : Nat} (h : i < a.length) : (a.map V.int)[i]? = some (.int (a.getD i 0)) := by
  rw [List.getElem?_map, List.getElem?_eq_getElem h]
  simp [List.getD, List.getElem?_eq_getElem h]
theorem getDs {α : Type} {a : List α} {i : Nat} {x d : α} (h : a[i]? = some x) : a.getD i d = x := by simp [List.getD, h]
theorem getSome {α : Type} {a : List α} {i : Nat} (d : α) (h : i < a.length) : a[i]? = some (a.getD i d) := by simp [List.getD, List.getElem?_eq_getElem h]
/-- all that was tracked is as it was, but at D -/
def SamB (D : Addr) (H H' : Hp) : Prop := ∀ b o, b ≠ D → H b = some o → H' b = some o
theorem SamB.refl (D : Addr) (H : Hp) : SamB D H H := fun _ _ _ h => h
theorem SamB.trans {D : Addr} {H H1 H2 : Hp} (a : SamB D H H1) (b : SamB D H1 H2) : SamB D H H2 := fun c o n h => b c o n (a c o n h)
theorem SamB.of {D : Addr} {H H1 : Hp} (a : Same H H1) : SamB D H H1 := fun c o _ h => a c o h
theorem SamB.upd {D : Addr} {H H1 : Hp} {o : HO} (a : SamB D H H1) : SamB D H (L2.upd H1 D o) := fun c u n h => by
  rw [upd_ne n]
  exact a c u n h
theorem SamB.same {D : Addr} {H0 H H1 : Hp} (h0 : H0 D = none) (e : Same H0 H) (a : SamB D H H1) : Same H0 H1 := fun c u h => a c u (ne_of_none h h0) (e c u h)
theorem SamB.seqT {D : Addr} {K : PySem.W.Frag} {H H1 : Hp} {b : Addr} {xs ys : List V} (a : SamB D H H1) (e : H D = some (.lst xs)) (h : SqT K H b ys) : SqT K H1 b ys := by
  rcases h with (h | ⟨ob, h⟩) | h
  · exact .inl (.inl (a _ _ (ne_of h e (fun z => by cases z)) h))
  · exact .inl (.inr ⟨ob, a _ _ (ne_of h e (fun z => by cases z)) h⟩)
  · exact .inr h
theorem SamB.seqL {D : Addr} {K : PySem.W.Frag} {H H1 : Hp} {b : Addr} {ys : List V} (a : SamB D H H1) (n : b ≠ D) (h : SqL K H b ys) : SqL K H1 b ys := by
  rcases h with (h | ⟨ob, h⟩) | h
  · exact .inl (.inl (a _ _ n h))
  · exact .inl (.inr ⟨ob, a _ _ n h⟩)
  · exact .inr h
theorem Stay.samB {α : Type} {R : Hp → V → α → Prop} (S : Stay R) {D : Addr} {H H1 : Hp} {xs : List V} {o : HO} (a : SamB D H H1) (e : H D = some (.lst xs)) (e' : H1 D = some o) {v : V} {x : α} (h : R H v x) : R H1 v x := by
  refine S.same (H := L2.upd H D o) (fun b u q => ?_) (S.lst e h)
  by_cases hb : b = D
  · subst hb
    rw [upd_same] at q
    rw [e']
    exact q
  · rw [upd_ne hb] at q
    exact a b u hb q
theorem Stay.samBs {α : Type} {R : Hp → V → α → Prop} (S : Stay R) {D : Addr} {H H1 : Hp} {xs : List V} {o : HO} (a : SamB D H H1) (e : H D = some (.lst xs)) (e' : H1 D = some o) {vs : List V} {ys : List α} (h : Paired (R H) vs ys) : Paired (R H1) vs ys := sameP h fun _ _ q => S.samB a e e' q
/-- a new list of items -/
def NewL {α : Type} (R : Hp → V → α → Prop) (H H' : Hp) (v : V) (xs : List α) : Prop := ∃ a vs, v = .ref a ∧ H a = none ∧ H' a = some (.lst vs) ∧ Paired (R H') vs xs
/-- a loop whose body lengthens the list at D: at turn i by the items f i; Sg tells the slots -/
theorem for_acc {α : Type} {J : It} {n : Nat} {GG : Hp → Prop} {Y : Nat → Hp → V → Hp → Prop} (w : Walk J n GG Y) {R : Hp → V → α → Prop} {D : Addr} (Sg : L2.St → Prop) (pre : List α) (f : Nat → List α)
    {g : TG} {tb : TS} {DD : Ends} {σ : L2.St} {H : Hp} {acc0 : List V} (h1 : Sg σ) (h3 : H D = some (.lst acc0)) (h4 : Paired (R H) acc0 pre) (hG : ∀ H1, SamB D H H1 → GG H1)
    (hs : ∀ (i : Nat) (x : V) (σ : L2.St) (H1 H' : Hp) (acc : List V) (N : L2.St → Hp → Prop), i < n → Sg σ → SamB D H H1 → Y i H1 x H' → H1 D = some (.lst acc) → Paired (R H1) acc (pre ++ (List.range i).flatMap f) →
      (∀ σ' H'' acc', Sg σ' → SamB D H1 H'' → H'' D = some (.lst acc') → Paired (R H'') acc' ((pre ++ (List.range i).flatMap f) ++ f i) → N σ' H'') → g x σ H' fun σ2 H2 => tb { DD with nx := N, ct := N, bk := DD.nx } σ2 H2)
    (hd : ∀ (σ : L2.St) (H1 : Hp) (acc : List V), Sg σ → SamB D H H1 → H1 D = some (.lst acc) → Paired (R H1) acc (pre ++ (List.range n).flatMap f) → DD.nx σ H1) :
    ∃ W : Nat → Nat → L2.St → Hp → Prop, (∃ m, W 0 m σ H) ∧ ∀ i m σ H, W i m σ H →
      (J.stop i H ∧ DD.nx σ H) ∨ (J.go i H ∧ ∃ N : L2.St → Hp → Prop, (∀ σ' H', N σ' H' → ∃ m', m' < m ∧ W (i + 1) m' σ' H') ∧ ∀ x H', J.yld i H x H' → g x σ H' fun σ2 H2 => tb { DD with nx := N, ct := N, bk := DD.nx } σ2 H2) := by
  refine for_it w (fun i σ H1 => Sg σ ∧ SamB D H H1 ∧ ∃ acc, H1 D = some (.lst acc) ∧ Paired (R H1) acc (pre ++ (List.range i).flatMap f)) ⟨h1, .refl _ _, acc0, h3, by simpa using h4⟩ (fun i σ H1 _ p => hG H1 p.2.1) (fun i x σ H1 H' hi p y => ?_) (fun σ H1 p => ?_)
  · obtain ⟨p1, p2, acc, e, q⟩ := p
    refine hs i x σ H1 H' acc _ hi p1 p2 y e q fun σ' H'' acc' a b c d => ⟨a, p2.trans b, acc', c, ?_⟩
    rw [List.range_succ, List.flatMap_append, ← List.append_assoc]
    simpa using d
  · obtain ⟨p1, p2, acc, e, q⟩ := p
    exact hd σ H1 acc p1 p2 e q
theorem flat_one {α β : Type} (a : List α) (d : α) (f : α → β) : (List.range a.length).flatMap (fun i => [f (a.getD i d)]) = a.map f := by
  have e := congrArg (List.map f) (range_getD a d)
  rw [List.map_map] at e
  rw [← e]
  induction List.range a.length with
  | nil => rfl
  | cons x r ih => rw [List.flatMap_cons, ih]; rfl
theorem flat_len {α : Type} (n : Nat) (f : Nat → List α) (i : Nat) (h : i ≤ n) : ((List.range i).flatMap f).length ≤ ((List.range n).flatMap f).length := by
  obtain ⟨k, rfl⟩ : ∃ k, n = i + k := ⟨n - i, by omega⟩
  rw [List.range_add, List.flatMap_append, List.length_append]
  omega
theorem flat_mem {α : Type} (n : Nat) (f : Nat → List α) (i : Nat) (h : i < n) : (f i).length ≤ ((List.range n).flatMap f).length := by
  have := flat_len n f (i + 1) h
  rw [List.range_succ, List.flatMap_append, List.length_append] at this
  have e : ([i].flatMap f) = f i := by simp
  rw [e] at this
  omega
theorem flat_at {α : Type} (n : Nat) (f : Nat → List α) (i : Nat) (h : i < n) : ((List.range i).flatMap f).length + (f i).length ≤ ((List.range n).flatMap f).length := by
  have := flat_len n f (i + 1) h
  rw [List.range_succ, List.flatMap_append, List.length_append] at this
  have e : ([i].flatMap f) = f i := by simp
  rw [e] at this
  omega
theorem flatMap_map' {α β γ : Type} (g : α → β) (f : β → List γ) : ∀ l : List α, (l.map g).flatMap f = l.flatMap (fun x => f (g x))
  | [] => rfl
  | x :: r => by rw [List.map_cons, List.flatMap_cons, List.flatMap_cons, flatMap_map' g f r]
/-- xs[1:] -/
theorem cut_one (xs : List V) : cutV xs (some 1) none = xs.drop 1 := by
  unfold cutV
  rw [show HT.sIx xs.length 0 (some 1) = min 1 xs.length from HT.sIx_nat xs.length 0 1, HT.sIx_none]
  cases xs with
  | nil => rfl
  | cons x r =>
    rw [show min 1 (x :: r).length = 1 by rw [List.length_cons]; omega]
    show (List.take ((x :: r).length - 1) r) = r
    rw [List.length_cons, Nat.add_sub_cancel]
    exact List.take_length
theorem six_one {n : Nat} (h : 0 < n) : HT.sIx n 0 (some 1) = 1 := by
  have := HT.sIx_nat n 0 1
  rw [show min 1 n = 1 by omega] at this
  exact this
theorem flat_sing_len {α : Type} (ff : Nat → α) : ∀ j, ((List.range j).flatMap fun j => [ff j]).length = j
  | 0 => rfl
  | j + 1 => by
    rw [List.range_succ, List.flatMap_append, List.length_append, flat_sing_len ff j]
    rfl
theorem isP_of {K : PySem.W.Frag} {H : Hp} {v : V} {ns : List Int} (h : IsT IsI K H v ns) : IsP K H v ns := by
  obtain ⟨a, vs, rfl, h, p⟩ := h
  rw [pIntMap p] at h
  exact ⟨a, rfl, h⟩
theorem isP_to {K : PySem.W.Frag} {H : Hp} {v : V} {ns : List Int} (h : IsP K H v ns) : IsT IsI K H v ns := by
  obtain ⟨a, rfl, h⟩ := h
  exact ⟨a, _, rfl, h, pMapInt ns⟩
/-- (first,) + rest -/
theorem cat_first {α : Type} {R : Hp → V → α → Prop} (S : Stay R) {K : PySem.W.Frag} {H : Hp} {a5 a4 : Addr} {v : V} {x : α} {vs : List V} {rest : List α} {Q : VK} (ha5 : H a5 = none) (hv : R H v x) (hT : SqT K H a4 vs) (hp : Paired (R H) vs rest) (hl : rest.length ≤ 100000)
    (hq : ∀ y H5, Same H H5 → IsT R K H5 y (x :: rest) → Q y H5) : rCatT K (.ref a5) (.ref a4) (upd H a5 (.tup [v])) Q := by
  have s8 := same_new ha5 (.tup [v])
  have hlen := pLen hp
  refine ⟨a5, a4, [v], vs, rfl, rfl, SqT.of upd_same, sameT s8 hT, by simp, sz' (by rw [List.length_singleton]; omega), fun e => ?_, fun e a6 ha6 => ?_⟩
  · subst e
    cases hp
    exact hq _ _ s8 ⟨a5, [v], rfl, SqT.of upd_same, .cons (S.same s8 hv) .nil⟩
  · have s9 := s8.trans (same_new ha6 (.tup ([v] ++ vs)))
    exact hq _ _ s9 ⟨a6, v :: vs, rfl, SqT.of upd_same, .cons (S.same s9 hv) (S.all s9 hp)⟩
theorem tyes {σ : L2.St} {H : Hp} {f g : Hp → Prop} (h : f H) : tYes σ H (fun b H3 => if b = true then f H3 else g H3) := by
  show if true = true then f H else g H
  exact iteT h
end K19

namespace K19
open PySem PySem.Spec PyProof.Rows L2
section
variable {P : Program} {w : World} {K : PySem.W.Frag} {mg : Str → Option Value} {base : Heap}
abbrev s_part_at : Stmt := topS 9
abbrev n_part_at : List Str := ["a", "i"]
theorem sc_part_at : FnScope n_part_at ["a", "i"] (defScope s_part_at) := ⟨rfl, rfl, rfl, by decide +kernel, rfl, by decide +kernel, by decide +kernel⟩
def spPartAt (K : PySem.W.Frag) : Sp := fun vs H Q _ => ∃ (x : V) (a : List Int) (i : Nat), vs = [x, .int (i : Nat)] ∧ IsP K H x a ∧ Q (.int (partAt a i)) H
theorem ok_part_at {k : Nat} (F : Dfn K mg "part_at" s_part_at ["a", "i"] []) (m_len : mg "len" = none) : Can P w K mg base (k + 1) "part_at" (spPartAt K) [] := by
  refine F.can sc_part_at (fun vs H Q E h => ?_) (fun f cdv A outer s H vs Q E hr h => ?_)
  · obtain ⟨x, a, i, rfl, _⟩ := h
    rfl
  obtain ⟨x, a, i, rfl, ⟨p, rfl, hS⟩, q⟩ := h
  refine ⟨_, (pss_one (ps_ret (pe_ifExp (pt_cmpR op_lt (pv 1) (pe_callB (lenK (K := K) rfl) (by rfl) m_len (by decide +kernel) (pa_cons (pv 0) pa_nil)) (nomark _)) (pe_ix (ixT (K := K) rfl) (pv 0) (pv 1) (fun _ _ => rfl)) pe_int))), ?_⟩
  refine ⟨_, rfl, _, rfl, p, _, rfl, .inr hS, _, _, rfl, rfl, _, rfl, ?_⟩
  refine ite2 (fun c => ?_) (fun c => ?_)
  · have c' : (i : Int) < (((a.map V.int).length : Nat) : Int) := of_decide_eq_true c
    rw [List.length_map] at c'
    have hi : i < a.length := by omega
    have e : partAt a i = a[i] := by simp [partAt, List.getD, List.getElem?_eq_getElem hi]
    rw [e] at q
    exact ⟨_, rfl, _, rfl, p, _, _, _, rfl, rfl, hS, atI_nat (by rw [List.getElem?_map, List.getElem?_eq_getElem hi]; rfl), q⟩
  · have c' : ¬ (i : Int) < (((a.map V.int).length : Nat) : Int) := of_decide_eq_false (Bool.eq_false_iff.mpr c)
    rw [List.length_map] at c'
    have e : partAt a i = 0 := by simp [partAt, List.getD, List.getElem?_eq_none (show a.length ≤ i by omega)]
    rw [e] at q
    exact q
abbrev s_holds : Stmt := topS 11
abbrev n_holds : List Str := ["a", "b", "i"]
theorem sc_holds : FnScope n_holds ["a", "b"] (defScope s_holds) := ⟨rfl, rfl, rfl, by decide +kernel, rfl, by decide +kernel, by decide +kernel⟩
def spHolds (K : PySem.W.Frag) : Sp := fun vs H Q _ => ∃ (x y : V) (a b : List Int), vs = [x, y] ∧ IsP K H x a ∧ IsP K H y b ∧ b.length ≤ 1000 ∧ ∀ H', Same H H' → Q (.bl (holds a b)) H'
theorem ok_holds {k : Nat} (F : Dfn K mg "holds" s_holds ["a", "b"] []) (m_len : mg "len" = none) (m_range : mg "range" = none) : Can P w K mg base (k + 1) "holds" (spHolds K) [] := by
  refine F.can sc_holds (fun vs H Q E h => ?_) (fun f cdv A outer s H vs Q E hr h => ?_)
  · obtain ⟨x, y, a, b, rfl, _⟩ := h
    rfl
  obtain ⟨x, y, a, b, rfl, ⟨p, rfl, hA⟩, ⟨r, rfl, hB⟩, hl, q⟩ := h
  refine ⟨_, (pss_cons (ps_if (pt_cmpR op_gt (pe_callB (lenK (K := K) rfl) (by rfl) m_len (by decide +kernel) (pa_cons (pv 1) pa_nil)) (pe_callB (lenK (K := K) rfl) (by rfl) m_len (by decide +kernel) (pa_cons (pv 0) pa_nil)) (nomark _)) (pss_one (ps_ret pe_bl)) pss_nil)
      (pss_one (ps_ret (pe_cmpR op_eq (pe_callB (lenK (K := K) rfl) (by rfl) m_len (by decide +kernel) (pa_cons (pe_lc (own := [("i", 2)]) (g := gName 2) (by rfl) sc_holds.nd (pi_range1 (by rfl) m_range (pa_cons (pe_callB (lenK (K := K) rfl) (by rfl) m_len (by decide +kernel) (pa_cons (pv 1) pa_nil)) pa_nil)) (blkOk_by (own := [("i", 2)]) (N := n_holds) (sc := defScope s_holds) (by decide +kernel)) (fun _ _ _ _ _ => (pg_name (i := 2) sc_holds.nd rfl (.inl rfl))) (fun _ _ _ _ _ => (pts_one (pt_cmpR op_gt (pe_ix (ixT (K := K) rfl) (pv 1) (pv 2) (fun _ _ => rfl)) (pe_ix (ixT (K := K) rfl) (pv 0) (pv 2) (fun _ _ => rfl)) (nomark _)))) (fun _ _ _ _ _ => (pv 2))) pa_nil)) pe_int (nomark _))))), ?_⟩
  refine ⟨_, rfl, r, _, rfl, .inr hB, _, rfl, p, _, rfl, .inr hA, _, _, rfl, rfl, _, rfl, ?_⟩
  refine ite2 (fun c => ?_) (fun c => ?_)
  · have c' : (((a.map V.int).length : Nat) : Int) < (((b.map V.int).length : Nat) : Int) := of_decide_eq_true c
    rw [List.length_map, List.length_map] at c'
    have e : holds a b = false := by unfold holds; rw [if_pos (by omega)]
    rw [e] at q
    exact q H (Same.refl H)
  · have c' : ¬ (((a.map V.int).length : Nat) : Int) < (((b.map V.int).length : Nat) : Int) := of_decide_eq_false (Bool.eq_false_iff.mpr c)
    rw [List.length_map, List.length_map] at c'
    refine ⟨_, rfl, r, _, rfl, .inr hB, _, rfl, by rw [List.length_map]; omega, by rw [List.length_map]; omega, fun D hD => ?_⟩
    rw [List.length_map]
    refine lc_pure (walk_r0 (n := b.length)) IsI stayI (fun i => if a.getD i 0 < b.getD i 0 then some (i : Int) else none) hD (by omega) (fun _ _ => trivial) (fun i x H1 H2 K1 K2 hi s1 y k1 k2 => ?_) (fun H1 acc s1 hacc hp => ?_)
    · obtain ⟨rfl, rfl⟩ := y
      have hA1 := sameT s1 hA
      have hB1 := sameT s1 hB
      refine ⟨rfl, _, rfl, _, rfl, r, _, _, _, rfl, rfl, hB1, atI_nat (getI hi), _, rfl, _, rfl, p, _, _, _, rfl, rfl, hA1, atI_nat (getI (by omega)), _, _, rfl, rfl, _, rfl, ite2 (fun c => ?_) (fun c => ?_)⟩
      · exact ⟨_, rfl, k1 _ _ _ (Same.refl _) (if_pos (of_decide_eq_true c)) rfl⟩
      · exact k2 _ (Same.refl _) (if_neg (of_decide_eq_false (Bool.eq_false_iff.mpr c)))
    · refine ⟨D, acc, rfl, .inl (SqL.of hacc), rfl, ?_⟩
      have e : decide (V.int ((acc.length : Nat) : Int) = V.int 0) = holds a b := by
        rw [pLen hp]
        unfold holds
        rw [if_neg (by omega)]
        have e2 : ((List.range b.length).filterMap fun i => if a.getD i 0 < b.getD i 0 then some (i : Int) else none).length = ((List.range b.length).filter fun i => decide (a.getD i 0 < b.getD i 0)).length := by
          have e3 := fm_len (fun i : Nat => decide (a.getD i 0 < b.getD i 0)) (fun i : Nat => (i : Int)) (List.range b.length)
          simp only [decide_eq_true_eq] at e3
          exact e3
        rw [e2]
        refine decide_eq_decide.mpr ⟨fun h => ?_, fun h => by rw [h]; rfl⟩
        have := V.int.inj h
        omega
      have g : Q (.bl (decide (V.int ((acc.length : Nat) : Int) = V.int 0))) H1 := by
        rw [e]
        exact q H1 s1
      exact g
abbrev s_trimmed : Stmt := topS 12
abbrev n_trimmed : List Str := ["row", "part"]
theorem sc_trimmed : FnScope n_trimmed ["row"] (defScope s_trimmed) := ⟨rfl, rfl, rfl, by decide +kernel, rfl, by decide +kernel, by decide +kernel⟩
def spTrimmed (K : PySem.W.Frag) : Sp := fun vs H Q _ => ∃ (x : V) (a : List Int), vs = [x] ∧ IsP K H x a ∧ a.length ≤ 1000 ∧ ∀ r H', Same H H' → IsP K H' r (trimmed a) → Q r H'
theorem ok_trimmed {k : Nat} (F : Dfn K mg "_trimmed" s_trimmed ["row"] []) (m_tuple : mg "tuple" = none) : Can P w K mg base (k + 1) "_trimmed" (spTrimmed K) [] := by
  refine F.can sc_trimmed (fun vs H Q E h => ?_) (fun f cdv A outer s H vs Q E hr h => ?_)
  · obtain ⟨x, a, rfl, _⟩ := h
    rfl
  obtain ⟨x, a, rfl, ⟨p, rfl, hA⟩, hl, q⟩ := h
  refine ⟨_, (pss_one (ps_ret (pe_callTy (tupleK (K := K) rfl) (by rfl) m_tuple (by decide +kernel) (pa_cons (pe_lc (own := [("part", 1)]) (g := gName 1) (by rfl) sc_trimmed.nd (pi_tup (pv 0)) (blkOk_by (own := [("part", 1)]) (N := n_trimmed) (sc := defScope s_trimmed) (by decide +kernel)) (fun _ _ _ _ _ => (pg_name (i := 1) sc_trimmed.nd rfl (.inl rfl))) (fun _ _ _ _ _ => (pts_one (pt_cmpR op_gt (pv 1) pe_int (nomark _)))) (fun _ _ _ _ _ => (pv 1))) pa_nil)))), ?_⟩
  refine ⟨_, rfl, p, rfl, ⟨_, hA⟩, fun D hD => ?_⟩
  refine lc_pure (walk_tup (xs := a.map V.int)) IsI stayI (fun i => if 0 < a.getD i 0 then some (a.getD i 0) else none) hD (by rw [List.length_map]; omega) (fun H1 s1 => sameT s1 hA) (fun i x H1 H2 K1 K2 hi s1 y k1 k2 => ?_) (fun H1 acc s1 hacc hp => ?_)
  · obtain ⟨rfl, y⟩ := y
    rw [List.length_map] at hi
    rw [getI hi] at y
    obtain rfl := Option.some.inj y
    refine ⟨rfl, _, rfl, _, _, rfl, rfl, _, rfl, ite2 (fun c => ?_) (fun c => ?_)⟩
    · exact ⟨_, rfl, k1 _ _ _ (Same.refl _) (if_pos (of_decide_eq_true c)) rfl⟩
    · exact k2 _ (Same.refl _) (if_neg (of_decide_eq_false (Bool.eq_false_iff.mpr c)))
  · refine ⟨D, acc, rfl, .inl ⟨SqL.of hacc, fun l hl' => ?_⟩⟩
    refine q _ _ (s1.trans (same_new hl' _)) ⟨l, rfl, SqT.of ?_⟩
    rw [upd_same, pIntMap hp]
    have e : ((List.range (a.map V.int).length).filterMap fun i => if 0 < a.getD i 0 then some (a.getD i 0) else none) = trimmed a := by
      rw [List.length_map]
      have e1 := fm_getD a 0 (fun x => if 0 < x then some x else none)
      have e2 := fm_filter (fun x : Int => decide (0 < x)) a
      simp only [decide_eq_true_eq] at e2
      exact e1.trans e2
    rw [e]
end
end K19

namespace K19
open PySem PySem.Spec PyProof.Rows L2
section
variable {P : Program} {w : World} {K : PySem.W.Frag} {mg : Str → Option Value} {base : Heap}
abbrev s_rows : Stmt := topS 13
abbrev n_rows : List Str := ["lows", "highs", "total", "out", "first", "rest"]
theorem sc_rows : FnScope n_rows ["lows", "highs", "total"] (defScope s_rows) := ⟨rfl, rfl, rfl, by decide +kernel, rfl, by decide +kernel, by decide +kernel⟩
theorem mrows_len : ∀ (lows highs : List Int) (t : Int), ∀ r ∈ mrows lows highs t, r.length = lows.length
  | [], _, t, r, h => by
    unfold mrows at h
    split at h
    · rw [List.mem_singleton.mp h]
    · cases h
  | lo :: lows, highs, t, r, h => by
    unfold mrows at h
    obtain ⟨f, _, h⟩ := List.mem_flatMap.mp h
    obtain ⟨s, hs, rfl⟩ := List.mem_map.mp h
    rw [List.length_cons, List.length_cons, mrows_len lows _ _ s hs]
def IsLI (K : PySem.W.Frag) (H : Hp) (v : V) (ns : List Int) : Prop := ∃ a, v = .ref a ∧ SqL K H a (ns.map V.int)
def Bd1 (l : List Int) : Prop := ∀ z ∈ l, -1000000 ≤ z ∧ z ≤ 1000000
def spRows (K : PySem.W.Frag) (n : Nat) : Sp := fun vs H Q _ => ∃ (x y : V) (lows highs : List Int) (t : Int), vs = [x, y, .int t] ∧ IsLI K H x lows ∧ IsLI K H y highs ∧ lows.length < n ∧ highs.length = lows.length ∧ lows.length ≤ 1000 ∧ Bd1 lows ∧ Bd1 highs ∧
  (mrows lows highs t).length ≤ 100000 ∧ ∀ r H', Same H H' → NewL (IsP K) H H' r (mrows lows highs t) → Q r H'
theorem ok_rows {k n : Nat} (F : Dfn K mg "_rows" s_rows ["lows", "highs", "total"] []) (c_rows : Can P w K mg base k "_rows" (spRows K n) []) (m_len : mg "len" = none) (m_range : mg "range" = none) : Can P w K mg base (k + 1) "_rows" (spRows K (n + 1)) [] := by
  refine F.can sc_rows (fun vs H Q E h => ?_) (fun f cdv A outer s H vs Q E hr h => ?_)
  · obtain ⟨x, y, lows, highs, t, rfl, _⟩ := h
    rfl
  obtain ⟨x, y, lows, highs, t, rfl, ⟨p, rfl, hL⟩, ⟨r, rfl, hH⟩, hn, hl, hk, hb1, hb2, hz, q⟩ := h
  refine ⟨_, (pss_cons (ps_if (pt_cmpR op_eq (pe_callB (lenK (K := K) rfl) (by rfl) m_len (by decide +kernel) (pa_cons (pv 0) pa_nil)) pe_int (nomark _)) (pss_one (ps_ret (pe_ifExp (pt_cmpR op_eq (pv 2) pe_int (nomark _)) (pe_lst (pa_cons (pe_tup pa_nil) pa_nil)) (pe_lst pa_nil)))) pss_nil)
      (pss_cons (ps_set (i := 3) sc_rows.nd rfl (.inl rfl) (pe_lst pa_nil))
      (pss_cons (ps_for PassesOwn.never rfl (pi_range3 (by rfl) m_range (pa_cons (pe_ix (ixL (K := K) rfl) (pv 1) pe_int (fun _ _ => rfl)) (pa_cons (pe_op op_sub (pe_ix (ixL (K := K) rfl) (pv 0) pe_int (fun _ _ => rfl)) pe_int) (pa_cons (pe_un un_neg pe_int) pa_nil)))) (pg_name (i := 4) sc_rows.nd rfl (.inl rfl))
      (pss_one (ps_for PassesOwn.never rfl (pi_list (pe_can c_rows hr (Nat.le_refl _) (by rfl) (pa_cons (pe_slice sl_list (pv 0) (po_some pe_int) po_none) (pa_cons (pe_slice sl_list (pv 1) (po_some pe_int) po_none) (pa_cons (pe_op op_sub (pv 2) (pv 4)) pa_nil))))) (pg_name (i := 5) sc_rows.nd rfl (.inl rfl))
      (pss_one (ps_expr (pe_bm PySem.F.plainAttrs_list PySem.F.slot_list_append PySem.F.type_list_append mt_append (pv 3) (pa_cons (pe_op op_catT (pe_tup (pa_cons (pv 4) pa_nil)) (pv 5)) pa_nil)))))))
      (pss_one (ps_ret (pv 3)))))), ?_⟩
  refine ⟨_, rfl, p, _, rfl, .inl hL, rfl, _, rfl, ?_⟩
  refine ite2 (fun c => ?_) (fun c => ?_)
  · have c' : lows = [] := by
      have c1 := V.int.inj (of_decide_eq_true c)
      cases lows with
      | nil => rfl
      | cons a l => rw [List.length_map, List.length_cons] at c1; omega
    subst c'
    refine ⟨_, rfl, rfl, _, rfl, ite2 (fun c => ?_) (fun c => ?_)⟩
    · have c1 : t = 0 := V.int.inj (of_decide_eq_true c)
      have e : mrows [] highs t = [[]] := by unfold mrows; rw [if_pos c1]
      rw [e] at q
      refine ⟨by decide, fun a ha => ⟨by show 1 ≤ sizeLine; decide, fun b hb => ?_⟩⟩
      have g := same_new (H := upd H a (.tup [])) hb (.lst [.ref a])
      exact q _ _ ((same_new ha _).trans g) ⟨b, _, rfl, (same_new ha _).free hb, upd_same, .cons ⟨a, rfl, SqT.of (g _ _ upd_same)⟩ .nil⟩
    · have c1 : t ≠ 0 := fun e => c (by rw [e]; exact decide_eq_true rfl)
      have e : mrows [] highs t = [] := by unfold mrows; rw [if_neg c1]
      rw [e] at q
      exact ⟨by decide, fun b hb => q _ _ (same_new hb _) ⟨b, _, rfl, hb, upd_same, .nil⟩⟩
  · cases lows with
    | nil => exact absurd (decide_eq_true rfl) c
    | cons lo lows =>
      cases highs with
      | nil => simp at hl
      | cons hi highs =>
        have hl' : highs.length = lows.length := by simpa using hl
        have hn' : lows.length < n := by simpa using hn
        obtain ⟨b1, b2⟩ := hb1 lo (List.mem_cons_self ..)
        obtain ⟨b3, b4⟩ := hb2 hi (List.mem_cons_self ..)
        have em : mrows (lo :: lows) (hi :: highs) t = (List.range (hi - (lo - 1)).toNat).flatMap (fun i : Nat => (mrows lows highs (t - (hi + (i : Nat) * (-1)))).map fun rest => (hi + (i : Nat) * (-1)) :: rest) := by
          show (downTo hi lo).flatMap _ = _
          unfold downTo
          exact flatMap_map' _ _ _
        rw [em] at hz q
        refine ⟨by decide, fun o ho => ?_⟩
        have s1 : Same H (upd H o (.lst [])) := same_new ho _
        refine ⟨_, rfl, r, _, _, _, rfl, rfl, s1.seq hH, atI_nat (j := 0) rfl, _, rfl, p, _, _, _, rfl, rfl, s1.seq hL, atI_nat (j := 0) rfl, _, _, rfl, rfl, _, rfl, _, _, _, _, rfl, RgC.neg (by omega) (by omega) (by omega) (by omega), ?_⟩
        refine for_acc (walk_rangeC) (R := IsP K) (D := o) (fun σ => ∃ v4 v5, σ = [some (.ref p), some (.ref r), some (.int t), some (.ref o), v4, v5]) [] (fun i : Nat => (mrows lows highs (t - (hi + (i : Nat) * (-1)))).map fun rest => (hi + (i : Nat) * (-1)) :: rest) ⟨_, _, rfl⟩ upd_same .nil (fun _ _ => trivial) (fun i x σ H1 H2 acc N hi' hsg s2 hy hacc hp kk => ?_) (fun σ H1 acc hsg s2 hacc hp => ?_)
        · obtain ⟨rfl, rfl⟩ := hy
          obtain ⟨v4, v5, rfl⟩ := hsg
          have s2' : Same H H2 := s2.same ho s1
          have hz1 := flat_at _ (fun i : Nat => (mrows lows highs (t - (hi + (i : Nat) * (-1)))).map fun rest => (hi + (i : Nat) * (-1)) :: rest) i hi'
          rw [List.length_map] at hz1
          have hacl := pLen hp
          rw [List.nil_append] at hacl
          refine ⟨_, rfl, _, rfl, p, _, rfl, s2'.seq hL, fun a1 ha1 => ?_⟩
          have s3 := same_new (H := H2) ha1 (.lst (cutV ((lo :: lows).map V.int) (some 1) none))
          refine ⟨_, rfl, _, rfl, r, _, rfl, s3.seq (s2'.seq hH), fun a2 ha2 => ?_⟩
          have s4 := same_new ha2 (.lst (cutV ((hi :: highs).map V.int) (some 1) none))
          refine ⟨_, rfl, _, rfl, _, _, rfl, rfl, _, _, lows, highs, _, rfl, ⟨a1, rfl, ?_⟩, ⟨a2, rfl, ?_⟩, hn', hl', by rw [List.length_cons] at hk; omega, fun z hz => hb1 z (List.mem_cons_of_mem _ hz), fun z hz => hb2 z (List.mem_cons_of_mem _ hz), ?_, fun z H3 s5 hz3 => ?_⟩
          · refine SqL.of (s4 _ _ ?_)
            rw [upd_same, cut_one]
            rfl
          · refine SqL.of ?_
            rw [upd_same, cut_one]
            rfl
          · show (mrows lows highs (t - (hi + (i : Nat) * (-1)))).length ≤ 100000
            omega
          · have s6 : Same H2 H3 := s3.trans (s4.trans s5)
            obtain ⟨a3, vs3, rfl, n3, h3, p3⟩ := hz3
            have hl3 := pLen p3
            have n30 : a3 ≠ o := ne_of_none (s4 _ _ (s3 _ _ hacc)) n3 |>.symm
            refine ⟨a3, rfl, ⟨_, SqL.of h3⟩, ?_⟩
            refine for_acc (walk_list (xs := vs3)) (R := IsP K) (D := o) (fun σ => ∃ v5, σ = [some (.ref p), some (.ref r), some (.int t), some (.ref o), some (.int (hi + (i : Nat) * (-1))), v5]) _ (fun j => [(hi + (i : Nat) * (-1)) :: (mrows lows highs (t - (hi + (i : Nat) * (-1)))).getD j []]) ⟨_, rfl⟩ (s6 _ _ hacc) ((stayP K).all s6 hp) (fun H4 s7 => s7.seqL n30 (SqL.of h3)) (fun j x σ H4 H5 acc2 N2 hj hsg s7 hy hacc2 hp2 kk2 => ?_) (fun σ H4 acc2 hsg s7 hacc2 hp2 => ?_)
            · obtain ⟨rfl, hx⟩ := hy
              obtain ⟨v5, rfl⟩ := hsg
              obtain ⟨rest, hrest, a4, rfl, h4⟩ := pAt p3 hx
              have hrl := mrows_len lows highs _ rest (List.mem_of_getElem? hrest)
              have h4' := s7.seqT (s6 _ _ hacc) h4
              have hacl2 := pLen hp2
              rw [List.length_append, List.nil_append] at hacl2
              rw [flat_sing_len] at hacl2
              refine ⟨_, rfl, .inl ⟨rfl, _, SqL.of hacc2⟩, _, rfl, by show 1 ≤ sizeLine; decide, fun a5 ha5 => ⟨_, rfl, ?_⟩⟩
              refine cat_first stayI ha5 rfl h4' (pMapInt rest) (by rw [List.length_cons] at hk; omega) fun y H6 s9 hy => ⟨o, acc2, y, rfl, rfl, s9 _ _ hacc2, sz (by omega), ?_⟩
              refine kk2 _ _ (acc2 ++ [y]) ⟨_, rfl⟩ (SamB.of s9).upd upd_same ?_
              refine pApp ((stayP K).allL (s9 _ _ hacc2) ((stayP K).all s9 hp2)) (.cons ((stayP K).lst (s9 _ _ hacc2) ?_) .nil)
              rw [getDs hrest]
              exact isP_of hy
            · obtain ⟨v5, rfl⟩ := hsg
              refine kk _ _ acc2 ⟨_, _, rfl⟩ ((SamB.of s6).trans s7) hacc2 ?_
              rw [hl3, flat_one] at hp2
              exact hp2
        · obtain ⟨v4, v5, rfl⟩ := hsg
          rw [List.nil_append] at hp
          exact ⟨_, rfl, q _ _ (s2.same ho s1) ⟨o, acc, rfl, ho, hacc, hp⟩⟩
end
end K19

namespace K19
open PySem PySem.Spec PyProof.Rows L2
section
variable {P : Program} {w : World} {K : PySem.W.Frag} {mg : Str → Option Value} {base : Heap}
theorem all_rows (F : Dfn K mg "_rows" s_rows ["lows", "highs", "total"] []) (m_len : mg "len" = none) (m_range : mg "range" = none) : ∀ n, Can P w K mg base n "_rows" (spRows K n) []
  | 0 => none_left F fun vs H Q E h => by
    obtain ⟨_, _, _, _, _, _, _, _, h, _⟩ := h
    exact absurd h (Nat.not_lt_zero _)
  | n + 1 => ok_rows F (all_rows F m_len m_range n) m_len m_range
/-- tuple([_trimmed(row) for row in _rows(..)]) -/
theorem lc_trim {n : Nat} {X : List (List Int)} {vs3 : List V} {Hr H1 : Hp} {a3 D : Addr} {i : Nat} {σ : L2.St} {own : List Nat} {Qd : Hp → Prop} (hD : H1 D = none) (h3 : H1 a3 = some (.lst vs3)) (p3 : Paired (IsP K H1) vs3 X) (hX : X.length ≤ 100000) (hl : ∀ r ∈ X, r.length ≤ 1000)
    (hi : ∀ x, (wipe σ own).set i (some x) = (wipe σ own).set i (some x) ∧ wipe ((wipe σ own).set i (some x)) own = wipe σ own ∧ ((wipe σ own).set i (some x))[i]? = some (some x))
    (hd : ∀ (H : Hp) (acc : List V), Same H1 H → H D = some (.lst acc) → Paired (IsP K H) acc (X.map trimmed) → Qd H) :
    ∃ W : Nat → Nat → Hp → Prop, (∃ m, W 0 m (upd H1 D (.lst []))) ∧ ∀ j m H, W j m H →
      ((Itl K a3).stop j H ∧ Qd H) ∨ ((Itl K a3).go j H ∧ ∃ Nx : Hp → Prop, (∀ H', Nx H' → ∃ m', m' < m ∧ W (j + 1) m' H') ∧ ∀ x H', (Itl K a3).yld j H x H' → gName i x (wipe σ own) H' fun σ2 H2 => wipe σ2 own = wipe σ own ∧ tYes σ2 H2 fun b H3 =>
        if b = true then tCall (spTrimmed K) [] E0 (tCons (tVar i) tNil) σ2 H3 fun y H4 => ∃ acc, H4 D = some (.lst acc) ∧ acc.length < sizeLine ∧ Nx (upd H4 D (.lst (acc ++ [y]))) else Nx H3) := by
  refine lc_pure (walk_list (xs := vs3)) (IsP K) (stayP K) (fun j => some (trimmed (X.getD j []))) hD (by rw [pLen p3]; omega) (fun H s => s.seq (SqL.of h3)) (fun j x H H' K1 K2 hj s y k1 k2 => ?_) (fun H acc s hacc hp => ?_)
  · obtain ⟨rfl, hx⟩ := y
    obtain ⟨r, hr, hp⟩ := pAt p3 hx
    refine ⟨(hi x).2.1, tyes ⟨_, (hi x).2.2, x, r, rfl, hp.same s, hl r (List.mem_of_getElem? hr), fun z H4 s4 hz => k1 z _ H4 s4 rfl ?_⟩⟩
    rw [getDs hr]
    exact hz
  · refine hd H acc s hacc ?_
    have e := (fm_getD X [] (fun r => some (trimmed r))).trans (fm_map trimmed X)
    rw [pLen p3, e] at hp
    exact hp
abbrev s_with_strip : Stmt := topS 14
abbrev n_with_strip : List Str := ["b", "k", "upright", "lows", "highs", "row", "a"]
theorem sc_with_strip : FnScope n_with_strip ["b", "k", "upright"] (defScope s_with_strip) := ⟨rfl, rfl, rfl, by decide +kernel, rfl, by decide +kernel, by decide +kernel⟩
def Bd2 (l : List Int) : Prop := ∀ z ∈ l, -1000 ≤ z ∧ z ≤ 1000
def spWith (K : PySem.W.Frag) : Sp := fun vs H Q _ => ∃ (x : V) (b : List Int) (k : Int), vs = [x, .int k, .bl false] ∧ IsP K H x b ∧ b.length ≤ 10 ∧ Bd2 b ∧ -1000 ≤ k ∧ k ≤ 1000 ∧
  (mrows (b ++ [0]) ((partAt b 0 + k) :: b) (b.sum + k)).length ≤ 100000 ∧ ∀ r H', Same H H' → IsF K H' r (withStrip b k) → Q r H'
theorem partAt_bd {b : List Int} (h : Bd2 b) (i : Nat) : -1000 ≤ partAt b i ∧ partAt b i ≤ 1000 := by
  unfold partAt
  by_cases hi : i < b.length
  · have e : b.getD i 0 = b[i] := by simp [List.getD, List.getElem?_eq_getElem hi]
    rw [e]
    exact h _ (List.getElem_mem hi)
  · have e : b.getD i 0 = 0 := by simp [List.getD, List.getElem?_eq_none (show b.length ≤ i by omega)]
    rw [e]
    omega
theorem ok_with_strip {k : Nat} (F : Dfn K mg "with_strip" s_with_strip ["b", "k", "upright"] [.bl false]) (c_rows : Can P w K mg base k "_rows" (spRows K 12) []) (c_part_at : Can P w K mg base k "part_at" (spPartAt K) []) (c_trimmed : Can P w K mg base k "_trimmed" (spTrimmed K) [])
    (m_list : mg "list" = none) (m_tuple : mg "tuple" = none) (m_sum : mg "sum" = none) : Can P w K mg base (k + 1) "with_strip" (spWith K) [.bl false] := by
  refine F.can sc_with_strip (fun vs H Q E h => ?_) (fun f cdv A outer s H vs Q E hr h => ?_)
  · obtain ⟨x, b, k, rfl, _⟩ := h
    rfl
  obtain ⟨x, b, k, rfl, hP, hl, hb, hk1, hk2, hz, q⟩ := h
  have hP' := hP
  obtain ⟨p, rfl, hS⟩ := hP
  have hlm : (b.map V.int).length = b.length := List.length_map _
  refine ⟨_, (pss_cons (ps_if (pt_val (pv 2)) (pss_one ps_never) pss_nil)
      (pss_cons (ps_set (i := 3) sc_with_strip.nd rfl (.inl rfl) (pe_op op_cat (pe_callTy (listK (K := K) rfl) (by rfl) m_list (by decide +kernel) (pa_cons (pv 0) pa_nil)) (pe_lst (pa_cons pe_int pa_nil))))
      (pss_cons (ps_set (i := 4) sc_with_strip.nd rfl (.inl rfl) (pe_op op_cat (pe_lst (pa_cons (pe_op op_add (pe_can c_part_at hr (Nat.le_refl _) (by rfl) (pa_cons (pv 0) (pa_cons pe_int pa_nil))) (pv 1)) pa_nil)) (pe_callTy (listK (K := K) rfl) (by rfl) m_list (by decide +kernel) (pa_cons (pv 0) pa_nil))))
      (pss_one (ps_ret (pe_callTy (tupleK (K := K) rfl) (by rfl) m_tuple (by decide +kernel) (pa_cons (pe_lc (own := [("row", 5)]) (g := gName 5) (tt := tYes) (by rfl) sc_with_strip.nd (pi_list (pe_can c_rows hr (Nat.le_refl _) (by rfl) (pa_cons (pv 3) (pa_cons (pv 4) (pa_cons (pe_op op_add (pe_callB (cr_sumT rfl) (by rfl) m_sum (by decide +kernel) (pa_cons (pv 0) pa_nil)) (pv 1)) pa_nil))))) (blkOk_by (own := [("row", 5)]) (N := n_with_strip) (sc := defScope s_with_strip) (by decide +kernel)) (fun _ _ _ _ _ => (pg_name (i := 5) sc_with_strip.nd rfl (.inl rfl))) (fun _ _ _ _ _ => pts_nil) (fun _ _ _ _ _ => (pe_can c_trimmed hr (Nat.le_refl _) (by rfl) (pa_cons (pv 5) pa_nil)))) pa_nil))))))), ?_⟩
  refine ⟨_, rfl, _, rfl, iteF ?_⟩
  refine ⟨_, rfl, p, _, rfl, .inr hS, fun l1 hl1 => ?_⟩
  have s1 := same_new hl1 (.lst (b.map V.int))
  refine ⟨by show 1 ≤ sizeLine; decide, fun l2 hl2 => ?_⟩
  have s2 := same_new hl2 (.lst [.int 0])
  refine ⟨l1, l2, _, _, rfl, rfl, s2 _ _ upd_same, upd_same, sz' (by rw [hlm, List.length_singleton]; omega), fun l3 hl3 => ?_⟩
  have s3 := (s1.trans s2).trans (same_new hl3 (.lst (b.map V.int ++ [.int 0])))
  have e3 : (upd (upd (upd H l1 (.lst (b.map V.int))) l2 (.lst [.int 0])) l3 (.lst (b.map V.int ++ [.int 0]))) l3 = some (.lst ((b ++ [0]).map V.int)) := by
    rw [upd_same, List.map_append]
    rfl
  generalize upd (upd (upd H l1 (.lst (b.map V.int))) l2 (.lst [.int 0])) l3 (.lst (b.map V.int ++ [.int 0])) = H3 at s3 e3
  refine ⟨_, rfl, .ref p, b, 0, rfl, hP'.same s3, _, rfl, _, _, rfl, rfl, by show 1 ≤ sizeLine; decide, fun l4 hl4 => ?_⟩
  have s4 := same_new hl4 (.lst [.int (partAt b 0 + k)])
  refine ⟨_, rfl, p, _, rfl, .inr (sameT (s3.trans s4) hS), fun l5 hl5 => ?_⟩
  have s5 := same_new hl5 (.lst (b.map V.int))
  refine ⟨l4, l5, _, _, rfl, rfl, s5 _ _ upd_same, upd_same, sz' (by rw [hlm, List.length_singleton]; omega), fun l6 hl6 => ?_⟩
  have s6 := (s4.trans s5).trans (same_new hl6 (.lst ([.int (partAt b 0 + k)] ++ b.map V.int)))
  have e6 : (upd (upd (upd H3 l4 (.lst [.int (partAt b 0 + k)])) l5 (.lst (b.map V.int))) l6 (.lst ([.int (partAt b 0 + k)] ++ b.map V.int))) l6 = some (.lst (((partAt b 0 + k) :: b).map V.int)) := upd_same
  generalize upd (upd (upd H3 l4 (.lst [.int (partAt b 0 + k)])) l5 (.lst (b.map V.int))) l6 (.lst ([.int (partAt b 0 + k)] ++ b.map V.int)) = H6 at s6 e6
  obtain ⟨g1, g2⟩ := partAt_bd hb 0
  refine ⟨_, rfl, _, rfl, _, rfl, p, b, rfl, sameT (s3.trans s6) hS, _, rfl, _, _, rfl, rfl, _, _, b ++ [0], (partAt b 0 + k) :: b, _, rfl, ⟨l3, rfl, SqL.of (s6 _ _ e3)⟩, ⟨l6, rfl, SqL.of e6⟩, by rw [List.length_append]; show b.length + 1 < 12; omega, by simp, by rw [List.length_append]; show b.length + 1 ≤ 1000; omega, fun z hz => ?_, fun z hz => ?_, hz, fun r H7 s7 hr7 => ?_⟩
  · rcases List.mem_append.mp hz with h | h
    · have := hb z h
      omega
    · rw [List.mem_singleton.mp h]
      decide
  · rcases List.mem_cons.mp hz with h | h
    · rw [h]
      omega
    · have := hb z h
      omega
  · obtain ⟨a3, vs3, rfl, n3, h3, p3⟩ := hr7
    refine ⟨a3, rfl, ⟨_, SqL.of h3⟩, fun D hD => lc_trim (n := 0) (Hr := H) hD h3 p3 hz (fun r hr => ?_) (fun x => ⟨rfl, rfl, rfl⟩) fun H8 acc s8 hacc hp => ?_⟩
    · rw [mrows_len _ _ _ r hr, List.length_append]
      show b.length + 1 ≤ 1000
      omega
    · refine ⟨D, acc, rfl, .inl ⟨SqL.of hacc, fun l hl' => ?_⟩⟩
      exact q _ _ ((s3.trans s6).trans (s7.trans (s8.trans (same_new hl' _)))) ⟨l, acc, rfl, SqT.of upd_same, (stayP K).all (same_new hl' _) hp⟩
abbrev s_without_strip : Stmt := topS 15
abbrev n_without_strip : List Str := ["a", "k", "upright", "lows", "i", "row", "b"]
theorem sc_without_strip : FnScope n_without_strip ["a", "k", "upright"] (defScope s_without_strip) := ⟨rfl, rfl, rfl, by decide +kernel, rfl, by decide +kernel, by decide +kernel⟩
def spWithout (K : PySem.W.Frag) : Sp := fun vs H Q _ => ∃ (x : V) (b : List Int) (k : Int), vs = [x, .int k, .bl false] ∧ IsP K H x b ∧ b.length ≤ 10 ∧ Bd2 b ∧ -1000 ≤ k ∧ k ≤ 1000 ∧
  (mrows (lowsOf b) b (b.sum - k)).length ≤ 100000 ∧ ∀ r H', Same H H' → IsF K H' r (withoutStrip b k) → Q r H'
theorem ok_without_strip {k : Nat} (F : Dfn K mg "without_strip" s_without_strip ["a", "k", "upright"] [.bl false]) (c_rows : Can P w K mg base k "_rows" (spRows K 12) []) (c_part_at : Can P w K mg base k "part_at" (spPartAt K) []) (c_trimmed : Can P w K mg base k "_trimmed" (spTrimmed K) [])
    (m_list : mg "list" = none) (m_tuple : mg "tuple" = none) (m_sum : mg "sum" = none) (m_range : mg "range" = none) (m_len : mg "len" = none) : Can P w K mg base (k + 1) "without_strip" (spWithout K) [.bl false] := by
  refine F.can sc_without_strip (fun vs H Q E h => ?_) (fun f cdv A outer s H vs Q E hr h => ?_)
  · obtain ⟨x, b, k, rfl, _⟩ := h
    rfl
  obtain ⟨x, b, k, rfl, hP, hl, hb, hk1, hk2, hz, q⟩ := h
  have hP' := hP
  obtain ⟨p, rfl, hS⟩ := hP
  have hlm : (b.map V.int).length = b.length := List.length_map _
  have hll : (lowsOf b).length = b.length := by unfold lowsOf; rw [List.length_map, List.length_range]
  refine ⟨_, (pss_cons (ps_if (pt_val (pv 2)) (pss_one ps_never) pss_nil)
      (pss_cons (ps_setLc (i := 3) (own := [("i", 4)]) (g := gName 4) (tt := tYes) (by rfl) sc_without_strip.nd rfl rfl (sw_true rfl rfl rfl (by decide +kernel)) (pi_range1 (by rfl) m_range (pa_cons (pe_callB (lenK (K := K) rfl) (by rfl) m_len (by decide +kernel) (pa_cons (pv 0) pa_nil)) pa_nil)) (blkOk_by (own := [("i", 4)]) (N := n_without_strip) (sc := defScope s_without_strip) (by decide +kernel)) (fun _ _ _ _ _ => (pg_name (i := 4) sc_without_strip.nd rfl (.inl rfl))) (fun _ _ _ _ _ => pts_nil) (fun _ _ _ _ _ => (pe_can c_part_at hr (Nat.le_refl _) (by rfl) (pa_cons (pv 0) (pa_cons (pe_op op_add (pv 4) pe_int) pa_nil)))))
      (pss_one (ps_ret (pe_callTy (tupleK (K := K) rfl) (by rfl) m_tuple (by decide +kernel) (pa_cons (pe_lc (own := [("row", 5)]) (g := gName 5) (tt := tYes) (by rfl) sc_without_strip.nd (pi_list (pe_can c_rows hr (Nat.le_refl _) (by rfl) (pa_cons (pv 3) (pa_cons (pe_callTy (listK (K := K) rfl) (by rfl) m_list (by decide +kernel) (pa_cons (pv 0) pa_nil)) (pa_cons (pe_op op_sub (pe_callB (cr_sumT rfl) (by rfl) m_sum (by decide +kernel) (pa_cons (pv 0) pa_nil)) (pv 1)) pa_nil))))) (blkOk_by (own := [("row", 5)]) (N := n_without_strip) (sc := defScope s_without_strip) (by decide +kernel)) (fun _ _ _ _ _ => (pg_name (i := 5) sc_without_strip.nd rfl (.inl rfl))) (fun _ _ _ _ _ => pts_nil) (fun _ _ _ _ _ => (pe_can c_trimmed hr (Nat.le_refl _) (by rfl) (pa_cons (pv 5) pa_nil)))) pa_nil)))))), ?_⟩
  refine ⟨_, rfl, _, rfl, iteF ?_⟩
  refine ⟨_, rfl, p, _, rfl, .inr hS, _, rfl, by rw [hlm]; omega, by rw [hlm]; omega, fun D hD => ?_⟩
  rw [hlm]
  refine lc_pure (walk_r0 (n := b.length)) IsI stayI (fun i => some (partAt b (i + 1))) hD (by omega) (fun _ _ => trivial) (fun i x H1 H2 K1 K2 hi s1 y k1 k2 => ?_) (fun H3 acc s3 hacc hp => ?_)
  · obtain ⟨rfl, rfl⟩ := y
    refine ⟨rfl, tyes ⟨_, rfl, _, rfl, _, _, rfl, rfl, .ref p, b, i + 1, ?_, hP'.same s1, k1 _ _ _ (Same.refl _) rfl rfl⟩⟩
    show [V.ref p, V.int ((i : Int) + 1)] = [V.ref p, V.int ((i + 1 : Nat) : Int)]
    rw [show ((i + 1 : Nat) : Int) = (i : Int) + 1 by omega]
  have e3 : H3 D = some (.lst ((lowsOf b).map V.int)) := by
    rw [fm_map] at hp
    rw [hacc, pIntMap hp]
    rfl
  refine ⟨_, rfl, _, rfl, p, _, rfl, .inr (sameT s3 hS), fun l6 hl6 => ?_⟩
  have s6 := same_new hl6 (.lst (b.map V.int))
  refine ⟨_, rfl, p, b, rfl, sameT (s3.trans s6) hS, _, rfl, _, _, rfl, rfl, _, _, lowsOf b, b, _, rfl, ⟨D, rfl, SqL.of (s6 _ _ e3)⟩, ⟨l6, rfl, SqL.of upd_same⟩, by rw [hll]; omega, by rw [hll], by rw [hll]; omega, fun z hz => ?_, fun z hz => ?_, hz, fun r H7 s7 hr7 => ?_⟩
  · obtain ⟨i, _, rfl⟩ := List.mem_map.mp hz
    have := partAt_bd hb (i + 1)
    omega
  · have := hb z hz
    omega
  · obtain ⟨a3, vs3, rfl, n3, h3, p3⟩ := hr7
    refine ⟨a3, rfl, ⟨_, SqL.of h3⟩, fun D hD => lc_trim (n := 0) (Hr := H) hD h3 p3 hz (fun r hr => ?_) (fun x => ⟨rfl, rfl, rfl⟩) fun H8 acc s8 hacc hp => ?_⟩
    · rw [mrows_len _ _ _ r hr, hll]
      omega
    · refine ⟨D, acc, rfl, .inl ⟨SqL.of hacc, fun l hl' => ?_⟩⟩
      exact q _ _ ((s3.trans s6).trans (s7.trans (s8.trans (same_new hl' _)))) ⟨l, acc, rfl, SqT.of upd_same, (stayP K).all (same_new hl' _) hp⟩
end
end K19

namespace K19
open PySem PySem.Spec PyProof.Rows L2
section
variable {P : Program} {w : World} {K : PySem.W.Frag} {mg : Str → Option Value} {base : Heap}
abbrev s_partitions_below : Stmt := topS 7
abbrev n_partitions_below : List Str := ["n", "most", "out", "first", "rest"]
theorem sc_partitions_below : FnScope n_partitions_below ["n", "most"] (defScope s_partitions_below) := ⟨rfl, rfl, rfl, by decide +kernel, rfl, by decide +kernel, by decide +kernel⟩
theorem parts_succ (f : Nat) (n m : Int) : partsBelow (f + 1) n m = if n = 0 then [[]] else (downTo (if m < n then m else n) 1).flatMap fun first => (partsBelow f (n - first) first).map fun rest => first :: rest := rfl
theorem parts_len : ∀ (f : Nat) (n m : Int), ∀ r ∈ partsBelow f n m, r.length ≤ f
  | 0, _, _, r, h => by
    unfold partsBelow at h
    rw [List.mem_singleton.mp h]
    exact Nat.le_refl _
  | f + 1, n, m, r, h => by
    unfold partsBelow at h
    split at h
    · rw [List.mem_singleton.mp h]
      exact Nat.zero_le _
    · obtain ⟨a, _, h⟩ := List.mem_flatMap.mp h
      obtain ⟨s, hs, rfl⟩ := List.mem_map.mp h
      rw [List.length_cons]
      exact Nat.succ_le_succ (parts_len f _ _ s hs)
def spPB (K : PySem.W.Frag) (d : Nat) : Sp := fun vs H Q _ => ∃ (n m : Int) (f : Nat), vs = [.int n, .int m] ∧ 0 ≤ n ∧ n ≤ f ∧ f < d ∧ f ≤ 1000 ∧ 0 ≤ m ∧ m ≤ 1000 ∧ (partsBelow f n m).length ≤ 100000 ∧ ∀ r H', Same H H' → NewL (IsP K) H H' r (partsBelow f n m) → Q r H'
theorem ok_partitions_below {k d : Nat} (F : Dfn K mg "_partitions_below" s_partitions_below ["n", "most"] []) (c_partitions_below : Can P w K mg base k "_partitions_below" (spPB K d) []) (m_min : mg "min" = none) (m_range : mg "range" = none) : Can P w K mg base (k + 1) "_partitions_below" (spPB K (d + 1)) [] := by
  refine F.can sc_partitions_below (fun vs H Q E h => ?_) (fun f cdv A outer s H vs Q E hr h => ?_)
  · obtain ⟨n, m, f, rfl, _⟩ := h
    rfl
  obtain ⟨n, m, f, rfl, hn0, hnf, hfd, hf, hm0, hm, hz, q⟩ := h
  refine ⟨_, (pss_cons (ps_if (pt_cmpR op_eq (pv 0) pe_int (nomark _)) (pss_one (ps_ret (pe_lst (pa_cons (pe_tup pa_nil) pa_nil)))) pss_nil)
      (pss_cons (ps_set (i := 2) sc_partitions_below.nd rfl (.inl rfl) (pe_lst pa_nil))
      (pss_cons (ps_for PassesOwn.never rfl (pi_range3 (by rfl) m_range (pa_cons (pe_callB (call_min2 rfl) (by rfl) m_min (by decide +kernel) (pa_cons (pv 0) (pa_cons (pv 1) pa_nil))) (pa_cons pe_int (pa_cons (pe_un un_neg pe_int) pa_nil)))) (pg_name (i := 3) sc_partitions_below.nd rfl (.inl rfl))
      (pss_one (ps_for PassesOwn.never rfl (pi_list (pe_can c_partitions_below hr (Nat.le_refl _) (by rfl) (pa_cons (pe_op op_sub (pv 0) (pv 3)) (pa_cons (pv 3) pa_nil)))) (pg_name (i := 4) sc_partitions_below.nd rfl (.inl rfl))
      (pss_one (ps_expr (pe_bm PySem.F.plainAttrs_list PySem.F.slot_list_append PySem.F.type_list_append mt_append (pv 2) (pa_cons (pe_op op_catT (pe_tup (pa_cons (pv 3) pa_nil)) (pv 4)) pa_nil)))))))
      (pss_one (ps_ret (pv 2)))))), ?_⟩
  refine ⟨_, rfl, rfl, _, rfl, ite2 (fun c => ?_) (fun c => ?_)⟩
  · have c1 : n = 0 := V.int.inj (of_decide_eq_true c)
    have e : partsBelow f n m = [[]] := by
      cases f with
      | zero => rfl
      | succ f => unfold partsBelow; rw [if_pos c1]
    rw [e] at q
    refine ⟨by decide, fun a ha => ⟨by show 1 ≤ sizeLine; decide, fun b hb => ?_⟩⟩
    have g := same_new (H := upd H a (.tup [])) hb (.lst [.ref a])
    exact q _ _ ((same_new ha _).trans g) ⟨b, _, rfl, (same_new ha _).free hb, upd_same, .cons ⟨a, rfl, SqT.of (g _ _ upd_same)⟩ .nil⟩
  · have c1 : n ≠ 0 := fun e => c (by rw [e]; exact decide_eq_true rfl)
    cases f with
    | zero => exact absurd (show n = 0 by omega) c1
    | succ f =>
      obtain ⟨hi, ehi⟩ : ∃ hi : Int, hi = if m < n then m else n := ⟨_, rfl⟩
      have hhi : 0 ≤ hi ∧ hi ≤ 1000 ∧ hi ≤ n := by
        rw [ehi]
        split <;> omega
      have em : partsBelow (f + 1) n m = (List.range (hi - 0).toNat).flatMap (fun i : Nat => (partsBelow f (n - (hi + (i : Nat) * (-1))) (hi + (i : Nat) * (-1))).map fun rest => (hi + (i : Nat) * (-1)) :: rest) := by
        rw [parts_succ, if_neg c1, ← ehi]
        exact flatMap_map' _ _ _
      rw [em] at hz q
      refine ⟨by decide, fun o ho => ?_⟩
      have s1 : Same H (upd H o (.lst [])) := same_new ho _
      refine ⟨_, rfl, _, rfl, n, m, rfl, ?_⟩
      rw [← ehi]
      refine ⟨_, rfl, _, _, _, _, rfl, RgC.neg (by omega) (by omega) (by omega) (by omega), ?_⟩
      refine for_acc (walk_rangeC) (R := IsP K) (D := o) (fun σ => ∃ v4 v5, σ = [some (.int n), some (.int m), some (.ref o), v4, v5]) [] (fun i : Nat => (partsBelow f (n - (hi + (i : Nat) * (-1))) (hi + (i : Nat) * (-1))).map fun rest => (hi + (i : Nat) * (-1)) :: rest) ⟨_, _, rfl⟩ upd_same .nil (fun _ _ => trivial) (fun i x σ H1 H2 acc N hi' hsg s2 hy hacc hp kk => ?_) (fun σ H1 acc hsg s2 hacc hp => ?_)
      · obtain ⟨rfl, rfl⟩ := hy
        obtain ⟨v4, v5, rfl⟩ := hsg
        have s2' : Same H H2 := s2.same ho s1
        have hz1 := flat_at _ (fun i : Nat => (partsBelow f (n - (hi + (i : Nat) * (-1))) (hi + (i : Nat) * (-1))).map fun rest => (hi + (i : Nat) * (-1)) :: rest) i hi'
        rw [List.length_map] at hz1
        have hacl := pLen hp
        rw [List.nil_append] at hacl
        obtain ⟨fi, efi⟩ : ∃ fi : Int, fi = hi + (i : Nat) * (-1) := ⟨_, rfl⟩
        have hfi : 1 ≤ fi ∧ fi ≤ hi := by omega
        show gName 3 (V.int (hi + (i : Nat) * (-1))) _ H2 _
        rw [← efi] at hz1 ⊢
        refine ⟨_, rfl, _, rfl, _, _, rfl, rfl, _, rfl, n - fi, fi, f, rfl, by omega, by omega, by omega, by omega, by omega, by omega, by omega, fun z H3 s6 hz3 => ?_⟩
        obtain ⟨a3, vs3, rfl, n3, h3, p3⟩ := hz3
        have hl3 := pLen p3
        have n30 : a3 ≠ o := ne_of_none hacc n3 |>.symm
        refine ⟨a3, rfl, ⟨_, SqL.of h3⟩, ?_⟩
        refine for_acc (walk_list (xs := vs3)) (R := IsP K) (D := o) (fun σ => ∃ v5, σ = [some (.int n), some (.int m), some (.ref o), some (.int fi), v5]) _ (fun j => [fi :: (partsBelow f (n - fi) fi).getD j []]) ⟨_, rfl⟩ (s6 _ _ hacc) ((stayP K).all s6 hp) (fun H4 s7 => s7.seqL n30 (SqL.of h3)) (fun j x σ H4 H5 acc2 N2 hj hsg s7 hy hacc2 hp2 kk2 => ?_) (fun σ H4 acc2 hsg s7 hacc2 hp2 => ?_)
        · obtain ⟨rfl, hx⟩ := hy
          obtain ⟨v5, rfl⟩ := hsg
          obtain ⟨rest, hrest, a4, rfl, h4⟩ := pAt p3 hx
          have hrl := parts_len f _ _ rest (List.mem_of_getElem? hrest)
          have h4' := s7.seqT (s6 _ _ hacc) h4
          have hacl2 := pLen hp2
          rw [List.length_append, List.nil_append, flat_sing_len] at hacl2
          refine ⟨_, rfl, .inl ⟨rfl, _, SqL.of hacc2⟩, _, rfl, by show 1 ≤ sizeLine; decide, fun a5 ha5 => ⟨_, rfl, ?_⟩⟩
          refine cat_first stayI ha5 rfl h4' (pMapInt rest) (by omega) fun y H6 s9 hy => ⟨o, acc2, y, rfl, rfl, s9 _ _ hacc2, sz (by omega), ?_⟩
          refine kk2 _ _ (acc2 ++ [y]) ⟨_, rfl⟩ (SamB.of s9).upd upd_same ?_
          refine pApp ((stayP K).allL (s9 _ _ hacc2) ((stayP K).all s9 hp2)) (.cons ((stayP K).lst (s9 _ _ hacc2) ?_) .nil)
          rw [getDs hrest]
          exact isP_of hy
        · obtain ⟨v5, rfl⟩ := hsg
          refine kk _ _ acc2 ⟨_, _, rfl⟩ ((SamB.of s6).trans s7) hacc2 ?_
          rw [hl3, flat_one, efi] at hp2
          exact hp2
      · obtain ⟨v4, v5, rfl⟩ := hsg
        rw [List.nil_append] at hp
        exact ⟨_, rfl, q _ _ (s2.same ho s1) ⟨o, acc, rfl, ho, hacc, hp⟩⟩
theorem all_partitions_below (F : Dfn K mg "_partitions_below" s_partitions_below ["n", "most"] []) (m_min : mg "min" = none) (m_range : mg "range" = none) : ∀ n, Can P w K mg base n "_partitions_below" (spPB K n) []
  | 0 => none_left F fun vs H Q E h => by
    obtain ⟨_, _, _, _, _, _, h, _⟩ := h
    exact absurd h (Nat.not_lt_zero _)
  | n + 1 => ok_partitions_below F (all_partitions_below F m_min m_range n) m_min m_range
abbrev s_partitions : Stmt := topS 8
abbrev n_partitions : List Str := ["n"]
theorem sc_partitions : FnScope n_partitions ["n"] (defScope s_partitions) := ⟨rfl, rfl, rfl, by decide +kernel, rfl, by decide +kernel, by decide +kernel⟩
def spPartitions (K : PySem.W.Frag) : Sp := fun vs H Q _ => ∃ n : Nat, vs = [.int (n : Nat)] ∧ n ≤ 8 ∧ (parts n).length ≤ 100000 ∧ ∀ r H', Same H H' → IsF K H' r (parts n) → Q r H'
theorem ok_partitions {k : Nat} (F : Dfn K mg "partitions" s_partitions ["n"] []) (c_partitions_below : Can P w K mg base k "_partitions_below" (spPB K 10) []) {tk : Tok} (m_MOST : mg "MOST" = some (.int 12 tk)) (m_tuple : mg "tuple" = none) (m_isinstance : mg "isinstance" = none) (m_int : mg "int" = none) (m_bool : mg "bool" = none) :
    Can P w K mg base (k + 1) "partitions" (spPartitions K) [] := by
  refine F.can sc_partitions (fun vs H Q E h => ?_) (fun f cdv A outer s H vs Q E hr h => ?_)
  · obtain ⟨n, rfl, _⟩ := h
    rfl
  obtain ⟨n, rfl, hn, hz, q⟩ := h
  refine ⟨_, (pss_cons (ps_if (PW.pt (pw_or (pt_not (pt_val (pe_callB call_isi (by rfl) m_isinstance (by decide +kernel) (pa_cons (pv 0) (pa_cons (pe_bltn (v := .ty "int") (by rfl) m_int (by decide +kernel) rfl) pa_nil))))) (pw_or (pt_val (pe_callB call_isi (by rfl) m_isinstance (by decide +kernel) (pa_cons (pv 0) (pa_cons (pe_bltn (v := .ty "bool") (by rfl) m_bool (by decide +kernel) rfl) pa_nil)))) (pw_or (pt_cmpR op_lt (pv 0) pe_int (nomark _)) (pw_or1 (pt_cmpR op_gt (pv 0) (pe_glob (v := .int 12) (by rfl) m_MOST ⟨_, rfl⟩) (nomark _))))))) (pss_one ps_never) pss_nil)
      (pss_one (ps_ret (pe_callTy (tupleK (K := K) rfl) (by rfl) m_tuple (by decide +kernel) (pa_cons (pe_can c_partitions_below hr (Nat.le_refl _) (by rfl) (pa_cons (pv 0) (pa_cons (pv 0) pa_nil))) pa_nil))))), ?_⟩
  refine ⟨_, rfl, _, _, _, _, true, rfl, .ty "int", .base (.int _), kit_ty (by decide +kernel), _, rfl, iteF ?_⟩
  refine ⟨_, rfl, _, _, _, _, false, rfl, .ty "bool", .base (.int _), kit_ty (by decide +kernel), _, rfl, iteF ?_⟩
  refine ⟨_, rfl, _, _, rfl, rfl, _, rfl, ite2 (fun c => ?_) (fun _ => ?_)⟩
  · have := of_decide_eq_true c
    omega
  refine ⟨_, rfl, _, _, rfl, rfl, _, rfl, ite2 (fun c => ?_) (fun _ => ?_)⟩
  · have := of_decide_eq_true c
    omega
  have e : parts n = partsBelow n n n := by
    unfold parts
    rw [Int.toNat_natCast]
  rw [e] at hz q
  refine ⟨_, rfl, _, rfl, (n : Int), (n : Int), n, rfl, by omega, by omega, by omega, by omega, by omega, by omega, hz, fun r H1 s1 hr1 => ?_⟩
  obtain ⟨a3, vs3, rfl, n3, h3, p3⟩ := hr1
  exact ⟨a3, vs3, rfl, .inl ⟨SqL.of h3, fun l hl => q _ _ (s1.trans (same_new hl _)) ⟨l, vs3, rfl, SqT.of upd_same, (stayP K).all (same_new hl _) p3⟩⟩⟩
end
end K19

namespace K19
open PySem PySem.Spec PyProof.Rows L2
section
variable {P : Program} {w : World} {K : PySem.W.Frag} {mg : Str → Option Value} {base : Heap}
theorem tyx_tup {H : Hp} {a : Addr} {xs : List V} (h : SqT K H a xs) : TyX K H (.ref a) (.type "tuple") := by
  rcases h with (h | ⟨o, h⟩) | ⟨o, its, n, h, c, _⟩
  · exact .base (.tup h)
  · exact .fTuple h
  · exact .kTuple h c
abbrev s_is_partition : Stmt := topS 6
abbrev n_is_partition : List Str := ["value", "before", "part"]
theorem sc_is_partition : FnScope n_is_partition ["value"] (defScope s_is_partition) := ⟨rfl, rfl, rfl, by decide +kernel, rfl, by decide +kernel, by decide +kernel⟩
def spIsPartition (K : PySem.W.Frag) : Sp := fun vs H Q _ => ∃ (x : V) (a : List Int), vs = [x] ∧ IsP K H x a ∧ isPartitionM (-1) a = true ∧ Q (.bl true) H
theorem ok_is_partition {k : Nat} (F : Dfn K mg "is_partition" s_is_partition ["value"] []) (m_tuple : mg "tuple" = none) (m_isinstance : mg "isinstance" = none) (m_int : mg "int" = none) (m_bool : mg "bool" = none) : Can P w K mg base (k + 1) "is_partition" (spIsPartition K) [] := by
  refine F.can sc_is_partition (fun vs H Q E h => ?_) (fun f cdv A outer s H vs Q E hr h => ?_)
  · obtain ⟨x, a, rfl, _⟩ := h
    rfl
  obtain ⟨x, a, rfl, ⟨p, rfl, hS⟩, hok, q⟩ := h
  refine ⟨_, (pss_cons (ps_if (pt_not (pt_val (pe_callB call_isi (by rfl) m_isinstance (by decide +kernel) (pa_cons (pv 0) (pa_cons (pe_bltn (v := .ty "tuple") (by rfl) m_tuple (by decide +kernel) rfl) pa_nil))))) (pss_one (ps_ret pe_bl)) pss_nil)
      (pss_cons (ps_set (i := 1) sc_is_partition.nd rfl (.inl rfl) (pe_un un_neg pe_int))
      (pss_cons (ps_for PassesOwn.never rfl (pi_tup (pv 0)) (pg_name (i := 2) sc_is_partition.nd rfl (.inl rfl))
      (pss_cons (ps_if (PW.pt (pw_or (pt_not (pt_val (pe_callB call_isi (by rfl) m_isinstance (by decide +kernel) (pa_cons (pv 2) (pa_cons (pe_bltn (v := .ty "int") (by rfl) m_int (by decide +kernel) rfl) pa_nil))))) (pw_or (pt_val (pe_callB call_isi (by rfl) m_isinstance (by decide +kernel) (pa_cons (pv 2) (pa_cons (pe_bltn (v := .ty "bool") (by rfl) m_bool (by decide +kernel) rfl) pa_nil)))) (pw_or1 (pt_cmpR op_lt (pv 2) pe_int (nomark _)))))) (pss_one (ps_ret pe_bl)) pss_nil)
      (pss_cons (ps_if (pt_chain op_le op_lt pe_int (pv 1) (pv 2)) (pss_one (ps_ret pe_bl)) pss_nil)
      (pss_one (ps_set (i := 1) sc_is_partition.nd rfl (.inl rfl) (pv 2))))))
      (pss_one (ps_ret pe_bl))))), ?_⟩
  refine ⟨_, rfl, _, _, _, _, true, rfl, .ty "tuple", tyx_tup hS, kit_ty (by decide +kernel), _, rfl, iteF ?_⟩
  refine ⟨_, rfl, _, rfl, p, rfl, ⟨_, hS⟩, ?_⟩
  refine for_it (walk_tup (xs := a.map V.int)) (fun i σ H' => H' = H ∧ ∃ bf v2, σ = [some (.ref p), some (.int bf), v2] ∧ isPartitionM bf (a.drop i) = true) ⟨rfl, -1, none, rfl, hok⟩ (fun i σ H' _ hp => by rw [hp.1]; exact hS) (fun i x σ H1 H2 hi hp hy => ?_) (fun σ H1 hp => ?_)
  · obtain ⟨rfl, bf, v2, rfl, hb⟩ := hp
    obtain ⟨rfl, hx⟩ := hy
    rw [List.length_map] at hi
    rw [getI hi] at hx
    obtain rfl := Option.some.inj hx
    rw [List.drop_eq_getElem_cons hi] at hb
    unfold isPartitionM at hb
    have e : a[i] = a.getD i 0 := by simp [List.getD, List.getElem?_eq_getElem hi]
    rw [e, Bool.and_eq_true, Bool.and_eq_true, decide_eq_true_eq, Bool.not_eq_true', Bool.and_eq_false_iff, decide_eq_false_iff_not, decide_eq_false_iff_not] at hb
    obtain ⟨⟨h1, h2⟩, h3⟩ := hb
    generalize a.getD i 0 = z at h1 h2 h3 ⊢
    refine ⟨_, rfl, _, _, _, _, true, rfl, .ty "int", .base (.int _), kit_ty (by decide +kernel), _, rfl, iteF ?_⟩
    refine ⟨_, rfl, _, _, _, _, false, rfl, .ty "bool", .base (.int _), kit_ty (by decide +kernel), _, rfl, iteF ?_⟩
    refine ⟨_, rfl, _, _, rfl, rfl, _, rfl, ite2 (fun c => ?_) (fun _ => ?_)⟩
    · have := of_decide_eq_true c
      omega
    refine ⟨_, rfl, _, _, rfl, rfl, _, rfl, ite2 (fun c => ?_) (fun c => ?_)⟩
    · refine ⟨_, rfl, _, _, rfl, rfl, _, rfl, ite2 (fun c2 => ?_) (fun _ => ?_)⟩
      · have d1 := of_decide_eq_true c
        have d2 := of_decide_eq_true c2
        omega
      · exact ⟨_, rfl, rfl, z, _, rfl, h3⟩
    · refine ⟨_, rfl, iteF ?_⟩
      exact ⟨_, rfl, rfl, z, _, rfl, h3⟩
  · obtain ⟨rfl, _⟩ := hp
    exact q
abbrev s_shape_fits : Stmt := topS 17
abbrev n_shape_fits : List Str := ["rows", "outer", "inner", "i", "row", "x"]
theorem sc_shape_fits : FnScope n_shape_fits ["rows", "outer", "inner"] (defScope s_shape_fits) := ⟨rfl, rfl, rfl, by decide +kernel, rfl, by decide +kernel, by decide +kernel⟩
def Fits (rows : List (List Int)) (outer : List Int) : Prop := rows.length = outer.length ∧ ∀ i, i < rows.length → ((rows.getD i []).length : Int) = outer.getD i 0 ∧ ∀ z ∈ rows.getD i [], 1 ≤ z
def spShapeFits (K : PySem.W.Frag) : Sp := fun vs H Q _ => ∃ (x y z : V) (rows : List (List Int)) (outer : List Int), vs = [x, y, z] ∧ IsF K H x rows ∧ IsP K H y outer ∧ IsP K H z [] ∧ Fits rows outer ∧ ∀ H', Same H H' → Q (.bl true) H'
theorem ok_shape_fits {k : Nat} (F : Dfn K mg "_shape_fits" s_shape_fits ["rows", "outer", "inner"] []) (c_part_at : Can P w K mg base k "part_at" (spPartAt K) []) (m_tuple : mg "tuple" = none) (m_isinstance : mg "isinstance" = none) (m_int : mg "int" = none) (m_bool : mg "bool" = none) (m_len : mg "len" = none) (m_enumerate : mg "enumerate" = none) :
    Can P w K mg base (k + 1) "_shape_fits" (spShapeFits K) [] := by
  refine F.can sc_shape_fits (fun vs H Q E h => ?_) (fun f cdv A outer_ s H vs Q E hr h => ?_)
  · obtain ⟨x, y, z, rows, outer, rfl, _⟩ := h
    rfl
  obtain ⟨x, y, z, rows, outer, rfl, ⟨p, rws, rfl, hR, pR⟩, ⟨o, rfl, hO⟩, hI, ⟨hf1, hf2⟩, q⟩ := h
  have lR := pLen pR
  refine ⟨_, (pss_cons (ps_if (PW.pt (pw_or (pt_not (pt_val (pe_callB call_isi (by rfl) m_isinstance (by decide +kernel) (pa_cons (pv 0) (pa_cons (pe_bltn (v := .ty "tuple") (by rfl) m_tuple (by decide +kernel) rfl) pa_nil))))) (pw_or1 (pt_cmpR op_ne (pe_callB (lenK (K := K) rfl) (by rfl) m_len (by decide +kernel) (pa_cons (pv 0) pa_nil)) (pe_callB (lenK (K := K) rfl) (by rfl) m_len (by decide +kernel) (pa_cons (pv 1) pa_nil)) (nomark _))))) (pss_one (ps_ret pe_bl)) pss_nil)
      (pss_cons (ps_for PassesOwn.never rfl (pi_enumT (by rfl) m_enumerate (pa_cons (pv 0) pa_nil)) (pgTK (K := K) rfl (by rfl) (pgs_cons (pg_name (i := 3) sc_shape_fits.nd rfl (.inl rfl)) (pgs_cons (pg_name (i := 4) sc_shape_fits.nd rfl (.inl rfl)) pgs_nil)))
      (pss_cons (ps_if (PW.pt (pw_or (pt_not (pt_val (pe_callB call_isi (by rfl) m_isinstance (by decide +kernel) (pa_cons (pv 4) (pa_cons (pe_bltn (v := .ty "tuple") (by rfl) m_tuple (by decide +kernel) rfl) pa_nil))))) (pw_or1 (pt_cmpR op_ne (pe_callB (lenK (K := K) rfl) (by rfl) m_len (by decide +kernel) (pa_cons (pv 4) pa_nil)) (pe_op op_sub (pe_ix (ixT (K := K) rfl) (pv 1) (pv 3) (fun _ _ => rfl)) (pe_can c_part_at hr (Nat.le_refl _) (by rfl) (pa_cons (pv 2) (pa_cons (pv 3) pa_nil)))) (nomark _))))) (pss_one (ps_ret pe_bl)) pss_nil)
      (pss_one (ps_for PassesOwn.never rfl (pi_tup (pv 4)) (pg_name (i := 5) sc_shape_fits.nd rfl (.inl rfl))
      (pss_one (ps_if (PW.pt (pw_or (pt_not (pt_val (pe_callB call_isi (by rfl) m_isinstance (by decide +kernel) (pa_cons (pv 5) (pa_cons (pe_bltn (v := .ty "int") (by rfl) m_int (by decide +kernel) rfl) pa_nil))))) (pw_or (pt_val (pe_callB call_isi (by rfl) m_isinstance (by decide +kernel) (pa_cons (pv 5) (pa_cons (pe_bltn (v := .ty "bool") (by rfl) m_bool (by decide +kernel) rfl) pa_nil)))) (pw_or1 (pt_cmpR op_lt (pv 5) pe_int (nomark _)))))) (pss_one (ps_ret pe_bl)) pss_nil))))))
      (pss_one (ps_ret pe_bl)))), ?_⟩
  refine ⟨_, rfl, _, _, _, _, true, rfl, .ty "tuple", tyx_tup hR, kit_ty (by decide +kernel), _, rfl, iteF ?_⟩
  refine ⟨_, rfl, p, _, rfl, .inr hR, _, rfl, o, _, rfl, .inr hO, rfl, _, rfl, ite2 (fun c => ?_) (fun _ => ?_)⟩
  · have e : V.int ((rws.length : Nat) : Int) = V.int (((outer.map V.int).length : Nat) : Int) := by rw [List.length_map, lR, hf1]
    rw [decide_eq_true e] at c
    cases c
  refine ⟨_, rfl, p, _, rfl, hR, ?_⟩
  refine for_it (walk_enumT (xs := rws)) (fun i σ H' => Same H H' ∧ ∃ v3 v4 v5, σ = [some (.ref p), some (.ref o), some z, v3, v4, v5]) ⟨Same.refl _, none, none, none, rfl⟩ (fun i σ H' _ hp => sameT hp.1 hR) (fun i x σ H1 H2 hi hp hy => ?_) (fun σ H1 hp => ?_)
  · obtain ⟨s1, v3, v4, v5, rfl⟩ := hp
    obtain ⟨T, xi, xr, rfl, hT, rfl, ei, er⟩ := hy
    obtain rfl := Option.some.inj ei
    have s2 : Same H (upd H1 T (.tup [.int (i : Nat), xr])) := s1.trans (same_new hT _)
    have hTT : SqT K (upd H1 T (.tup [.int (i : Nat), xr])) T [.int (i : Nat), xr] := SqT.of upd_same
    generalize upd H1 T (.tup [.int (i : Nat), xr]) = H2 at s2 hTT
    obtain ⟨row, hrow, b, rfl, hB⟩ := pAt pR er
    have hB2 := sameT s2 hB
    have hir : i < rows.length := by omega
    have hg := hf2 i hir
    rw [getDs hrow] at hg
    obtain ⟨hg1, hg2⟩ := hg
    refine ⟨T, _, rfl, hTT, rfl, _, _, rfl, _, _, rfl, rfl, ?_⟩
    refine ⟨_, rfl, _, _, _, _, true, rfl, .ty "tuple", tyx_tup hB2, kit_ty (by decide +kernel), _, rfl, iteF ?_⟩
    refine ⟨_, rfl, b, _, rfl, .inr hB2, _, rfl, _, rfl, o, _, _, _, rfl, rfl, sameT s2 hO, atI_nat (getI (by omega)), _, rfl, _, rfl, z, [], i, rfl, hI.same s2, _, _, rfl, rfl, rfl, _, rfl, ite2 (fun c => ?_) (fun _ => ?_)⟩
    · have e : V.int (((row.map V.int).length : Nat) : Int) = V.int (outer.getD i 0 - partAt [] i) := by
        rw [List.length_map, hg1]
        have : partAt [] i = 0 := by simp [partAt]
        rw [this]
        exact congrArg V.int (by omega)
      rw [decide_eq_true e] at c
      cases c
    refine ⟨_, rfl, b, rfl, ⟨_, hB2⟩, ?_⟩
    refine for_it (walk_tup (xs := row.map V.int)) (fun j σ H' => H' = H2 ∧ ∃ v5, σ = [some (.ref p), some (.ref o), some z, some (.int (i : Nat)), some (.ref b), v5]) ⟨rfl, _, rfl⟩ (fun j σ H' _ hp => by rw [hp.1]; exact hB2) (fun j x σ H3 H4 hj hp hy => ?_) (fun σ H3 hp => ?_)
    · obtain ⟨rfl, v5, rfl⟩ := hp
      obtain ⟨rfl, hx⟩ := hy
      rw [List.length_map] at hj
      rw [getI hj] at hx
      obtain rfl := Option.some.inj hx
      have hz1 : 1 ≤ row.getD j 0 := by
        have e : row.getD j 0 = row[j] := by simp [List.getD, List.getElem?_eq_getElem hj]
        rw [e]
        exact hg2 _ (List.getElem_mem hj)
      refine ⟨_, rfl, _, _, _, _, true, rfl, .ty "int", .base (.int _), kit_ty (by decide +kernel), _, rfl, iteF ?_⟩
      refine ⟨_, rfl, _, _, _, _, false, rfl, .ty "bool", .base (.int _), kit_ty (by decide +kernel), _, rfl, iteF ?_⟩
      refine ⟨_, rfl, _, _, rfl, rfl, _, rfl, ite2 (fun c => ?_) (fun _ => ?_)⟩
      · have := of_decide_eq_true c
        omega
      · exact ⟨rfl, _, rfl⟩
    · obtain ⟨rfl, v5, rfl⟩ := hp
      exact ⟨s2, _, _, _, rfl⟩
  · exact q _ hp.1
abbrev s_number_at : Stmt := topS 18
abbrev n_number_at : List Str := ["rows", "inner", "i", "j", "at"]
theorem sc_number_at : FnScope n_number_at ["rows", "inner", "i", "j"] (defScope s_number_at) := ⟨rfl, rfl, rfl, by decide +kernel, rfl, by decide +kernel, by decide +kernel⟩
def spNumberAt (K : PySem.W.Frag) : Sp := fun vs H Q _ => ∃ (x y : V) (rows : List (List Int)) (i : Int) (j : Nat), vs = [x, y, .int i, .int (j : Nat)] ∧ IsF K H x rows ∧ IsP K H y [] ∧ Q (.int (numberAt rows i j)) H
theorem ok_number_at {k : Nat} (F : Dfn K mg "_number_at" s_number_at ["rows", "inner", "i", "j"] []) (c_part_at : Can P w K mg base k "part_at" (spPartAt K) []) (m_len : mg "len" = none) :
    Can P w K mg base (k + 1) "_number_at" (spNumberAt K) [] := by
  refine F.can sc_number_at (fun vs H Q E h => ?_) (fun f cdv A outer_ s H vs Q E hr h => ?_)
  · obtain ⟨x, y, rows, i, j, rfl, _⟩ := h
    rfl
  obtain ⟨x, y, rows, i, j, rfl, ⟨p, rws, rfl, hR, pR⟩, hI, q⟩ := h
  have lR := pLen pR
  refine ⟨_, (pss_cons (ps_if (PW.pt (pw_or (pt_cmpR op_lt (pv 2) pe_int (nomark _)) (pw_or1 (pt_cmpR op_ge (pv 2) (pe_callB (lenK (K := K) rfl) (by rfl) m_len (by decide +kernel) (pa_cons (pv 0) pa_nil)) (nomark _))))) (pss_one (ps_ret pe_int)) pss_nil)
      (pss_cons (ps_set (i := 4) sc_number_at.nd rfl (.inl rfl) (pe_op op_sub (pv 3) (pe_can c_part_at hr (Nat.le_refl _) (by rfl) (pa_cons (pv 1) (pa_cons (pv 2) pa_nil)))))
      (pss_cons (ps_if (PW.pt (pw_or (pt_cmpR op_lt (pv 4) pe_int (nomark _)) (pw_or1 (pt_cmpR op_ge (pv 4) (pe_callB (lenK (K := K) rfl) (by rfl) m_len (by decide +kernel) (pa_cons (pe_ix (ixT (K := K) rfl) (pv 0) (pv 2) (fun _ _ => rfl)) pa_nil)) (nomark _))))) (pss_one (ps_ret pe_int)) pss_nil)
      (pss_one (ps_ret (pe_ix (ixT (K := K) rfl) (pe_ix (ixT (K := K) rfl) (pv 0) (pv 2) (fun _ _ => rfl)) (pv 4) (fun _ _ => rfl))))))), ?_⟩
  refine ⟨_, rfl, _, _, rfl, rfl, _, rfl, ite2 (fun c => ?_) (fun c => ?_)⟩
  · have c1 := of_decide_eq_true c
    refine iteT ?_
    have e : numberAt rows i j = 0 := by unfold numberAt; rw [if_pos c1]
    rw [e] at q
    exact q
  have c1 : ¬ i < 0 := of_decide_eq_false (Bool.eq_false_iff.mpr c)
  obtain ⟨n, rfl⟩ : ∃ n : Nat, i = (n : Int) := ⟨i.toNat, by omega⟩
  refine ⟨_, rfl, _, rfl, p, _, rfl, .inr hR, _, _, rfl, rfl, _, rfl, ite2 (fun c => ?_) (fun c => ?_)⟩
  · have c2 := of_decide_eq_true c
    have e : numberAt rows (n : Int) j = 0 := by
      unfold numberAt
      rw [if_neg c1, if_pos (show rows.length ≤ ((n : Nat) : Int).toNat by rw [Int.toNat_natCast]; omega)]
    rw [e] at q
    exact q
  have c2 : n < rows.length := by
    have := of_decide_eq_false (Bool.eq_false_iff.mpr c)
    omega
  obtain ⟨b', hb', hB⟩ := pAt' pR (getSome [] c2)
  obtain ⟨b, rfl, hB⟩ := hB
  refine ⟨_, rfl, _, rfl, _, rfl, y, [], n, rfl, hI, _, _, rfl, rfl, ?_⟩
  have ez : ((j : Nat) : Int) - partAt [] n = (j : Int) := by
    have : partAt [] n = 0 := by simp [partAt]
    rw [this]
    omega
  show gName 4 (V.int (((j : Nat) : Int) - partAt [] n)) _ H _
  rw [ez]
  refine ⟨_, rfl, _, _, rfl, rfl, _, rfl, ite2 (fun c => ?_) (fun _ => ?_)⟩
  · have := of_decide_eq_true c
    omega
  refine ⟨_, rfl, _, rfl, _, rfl, p, _, _, _, rfl, rfl, hR, atI_nat hb', b, _, rfl, .inr hB, _, _, rfl, rfl, _, rfl, ite2 (fun c => ?_) (fun c => ?_)⟩
  · have c3 := of_decide_eq_true c
    rw [List.length_map] at c3
    have e : numberAt rows (n : Int) j = 0 := by
      unfold numberAt
      rw [if_neg c1, if_neg (by rw [Int.toNat_natCast]; omega), if_pos (by rw [Int.toNat_natCast]; omega)]
    rw [e] at q
    exact q
  · have c3 := of_decide_eq_false (Bool.eq_false_iff.mpr c)
    rw [List.length_map] at c3
    have e : numberAt rows (n : Int) j = (rows.getD n []).getD j 0 := by
      unfold numberAt
      rw [if_neg c1, if_neg (by rw [Int.toNat_natCast]; omega), if_neg (by rw [Int.toNat_natCast]; omega), Int.toNat_natCast]
    rw [e] at q
    exact ⟨_, rfl, _, rfl, p, _, _, _, rfl, rfl, hR, atI_nat hb', _, rfl, b, _, _, _, rfl, rfl, hB, atI_nat (getI (by omega)), q⟩
end
end K19

namespace K19
open PySem PySem.Spec PyProof.Rows L2
section
variable {P : Program} {w : World} {K : PySem.W.Frag} {mg : Str → Option Value} {base : Heap}
abbrev s_is_filling : Stmt := topS 19
abbrev n_is_filling : List Str := ["rows", "outer", "inner", "i", "row", "at", "x"]
theorem sc_is_filling : FnScope n_is_filling ["rows", "outer", "inner"] (defScope s_is_filling) := ⟨rfl, rfl, rfl, by decide +kernel, rfl, by decide +kernel, by decide +kernel⟩
def FillOk (rows : List (List Int)) (outer : List Int) : Prop := Fits rows outer ∧ ∀ i, i < rows.length → ∀ t, t < (rows.getD i []).length → (0 < t → (rows.getD i []).getD (t - 1) 0 ≤ (rows.getD i []).getD t 0) ∧ numberAt rows ((i : Int) - 1) t < (rows.getD i []).getD t 0
def spIsFilling (K : PySem.W.Frag) : Sp := fun vs H Q _ => ∃ (x y z : V) (rows : List (List Int)) (outer : List Int), vs = [x, y, z] ∧ IsF K H x rows ∧ IsP K H y outer ∧ IsP K H z [] ∧ FillOk rows outer ∧ ∀ H', Same H H' → Q (.bl true) H'
theorem ok_is_filling {k : Nat} {z0 : V} (F : Dfn K mg "is_filling" s_is_filling ["rows", "outer", "inner"] [z0]) (c_shape_fits : Can P w K mg base k "_shape_fits" (spShapeFits K) []) (c_number_at : Can P w K mg base k "_number_at" (spNumberAt K) []) (c_part_at : Can P w K mg base k "part_at" (spPartAt K) []) (m_enumerate : mg "enumerate" = none) :
    Can P w K mg base (k + 1) "is_filling" (spIsFilling K) [z0] := by
  refine F.can sc_is_filling (fun vs H Q E h => ?_) (fun f cdv A outer_ s H vs Q E hr h => ?_)
  · obtain ⟨x, y, z, rows, outer, rfl, _⟩ := h
    rfl
  obtain ⟨x, y, z, rows, outer, rfl, hX, hO, hI, ⟨hf, hg⟩, q⟩ := h
  have hX' := hX
  obtain ⟨p, rws, rfl, hR, pR⟩ := hX
  have lR := pLen pR
  refine ⟨_, (pss_cons (ps_if (pt_not (pt_val (pe_can c_shape_fits hr (Nat.le_refl _) (by rfl) (pa_cons (pv 0) (pa_cons (pv 1) (pa_cons (pv 2) pa_nil)))))) (pss_one (ps_ret pe_bl)) pss_nil)
      (pss_cons (ps_for PassesOwn.never rfl (pi_enumT (by rfl) m_enumerate (pa_cons (pv 0) pa_nil)) (pgTK (K := K) rfl (by rfl) (pgs_cons (pg_name (i := 3) sc_is_filling.nd rfl (.inl rfl)) (pgs_cons (pg_name (i := 4) sc_is_filling.nd rfl (.inl rfl)) pgs_nil)))
      (pss_one (ps_for PassesOwn.never rfl (pi_enumT (by rfl) m_enumerate (pa_cons (pv 4) pa_nil)) (pgTK (K := K) rfl (by rfl) (pgs_cons (pg_name (i := 5) sc_is_filling.nd rfl (.inl rfl)) (pgs_cons (pg_name (i := 6) sc_is_filling.nd rfl (.inl rfl)) pgs_nil)))
      (pss_cons (ps_if (PW.pt (pw_and (pt_cmpR op_gt (pv 5) pe_int (nomark _)) (pw_and1 (pt_cmpR op_gt (pe_ix (ixT (K := K) rfl) (pv 4) (pe_op op_sub (pv 5) pe_int) (fun _ _ => rfl)) (pv 6) (nomark _))))) (pss_one (ps_ret pe_bl)) pss_nil)
      (pss_one (ps_if (pt_cmpR op_ge (pe_can c_number_at hr (Nat.le_refl _) (by rfl) (pa_cons (pv 0) (pa_cons (pv 2) (pa_cons (pe_op op_sub (pv 3) pe_int) (pa_cons (pe_op op_add (pe_can c_part_at hr (Nat.le_refl _) (by rfl) (pa_cons (pv 2) (pa_cons (pv 3) pa_nil))) (pv 5)) pa_nil))))) (pv 6) (nomark _)) (pss_one (ps_ret pe_bl)) pss_nil))))))
      (pss_one (ps_ret pe_bl)))), ?_⟩
  refine ⟨_, rfl, _, rfl, _, rfl, _, _, _, rows, outer, rfl, hX', hO, hI, hf, fun H0 s0 => ⟨_, rfl, iteF ?_⟩⟩
  refine ⟨_, rfl, p, _, rfl, sameT s0 hR, ?_⟩
  refine for_it (walk_enumT (xs := rws)) (fun i σ H' => Same H H' ∧ ∃ v3 v4 v5 v6, σ = [some (.ref p), some y, some z, v3, v4, v5, v6]) ⟨s0, none, none, none, none, rfl⟩ (fun i σ H' _ hp => sameT hp.1 hR) (fun i x σ H1 H2 hi hp hy => ?_) (fun σ H1 hp => ?_)
  · obtain ⟨s1, v3, v4, v5, v6, rfl⟩ := hp
    obtain ⟨T, xi, xr, rfl, hT, rfl, ei, er⟩ := hy
    obtain rfl := Option.some.inj ei
    have s2 : Same H (upd H1 T (.tup [.int (i : Nat), xr])) := s1.trans (same_new hT _)
    have hTT : SqT K (upd H1 T (.tup [.int (i : Nat), xr])) T [.int (i : Nat), xr] := SqT.of upd_same
    generalize upd H1 T (.tup [.int (i : Nat), xr]) = H2 at s2 hTT
    obtain ⟨row, hrow, b, rfl, hB⟩ := pAt pR er
    have hir : i < rows.length := by omega
    have hgi := hg i hir
    rw [getDs hrow] at hgi
    refine ⟨T, _, rfl, hTT, rfl, _, _, rfl, _, _, rfl, rfl, ?_⟩
    refine ⟨_, rfl, b, _, rfl, sameT s2 hB, ?_⟩
    refine for_it (walk_enumT (xs := row.map V.int)) (fun j σ H' => Same H2 H' ∧ ∃ v5 v6, σ = [some (.ref p), some y, some z, some (.int (i : Nat)), some (.ref b), v5, v6]) ⟨Same.refl _, _, _, rfl⟩ (fun j σ H' _ hp => sameT (s2.trans hp.1) hB) (fun j x σ H3 H4 hj hp hy => ?_) (fun σ H3 hp => ?_)
    · obtain ⟨s3, v5, v6, rfl⟩ := hp
      obtain ⟨T2, xj, xv, rfl, hT2, rfl, ej, ev⟩ := hy
      obtain rfl := Option.some.inj ej
      rw [List.length_map] at hj
      replace ev : (row.map V.int)[j]? = some xv := ev
      rw [getI hj] at ev
      obtain rfl := Option.some.inj ev
      have s4 : Same H2 (upd H3 T2 (.tup [.int (j : Nat), .int (row.getD j 0)])) := s3.trans (same_new hT2 _)
      have hTT2 : SqT K (upd H3 T2 (.tup [.int (j : Nat), .int (row.getD j 0)])) T2 [.int (j : Nat), .int (row.getD j 0)] := SqT.of upd_same
      generalize upd H3 T2 (.tup [.int (j : Nat), .int (row.getD j 0)]) = H4 at s4 hTT2
      obtain ⟨g1, g2⟩ := hgi j hj
      have hB4 := sameT (s2.trans s4) hB
      refine ⟨T2, _, rfl, hTT2, rfl, _, _, rfl, _, _, rfl, rfl, ?_⟩
      have ez : partAt [] i + (j : Int) = (j : Int) := by
        have : partAt [] i = 0 := by simp [partAt]
        omega
      refine ⟨_, rfl, _, _, rfl, rfl, _, rfl, ite2 (fun c => ?_) (fun c => iteF ?_)⟩
      · have c1 : 0 < j := by
          have := of_decide_eq_true c
          omega
        have e1 : ((j : Nat) : Int) - 1 = ((j - 1 : Nat) : Int) := by omega
        have e2 : atI (row.map V.int) (((j : Nat) : Int) - 1) = some (.int (row.getD (j - 1) 0)) := by
          rw [e1]
          exact atI_nat (getI (by omega))
        refine ⟨_, rfl, _, rfl, _, _, rfl, rfl, b, _, _, _, rfl, rfl, hB4, e2, _, rfl, _, _, rfl, rfl, _, rfl, ite2 (fun c => ?_) (fun _ => ?_)⟩
        · have := of_decide_eq_true c
          have := g1 c1
          omega
        · refine ⟨_, rfl, _, rfl, _, rfl, _, _, rfl, rfl, _, rfl, _, rfl, z, [], i, rfl, hI.same (s2.trans s4), _, rfl, _, _, rfl, rfl, .ref p, z, rows, (i : Int) - 1, j, (by show [V.ref p, z, V.int ((i : Int) - 1), V.int (partAt [] i + (j : Int))] = _; rw [ez]), hX'.same (s2.trans s4), hI.same (s2.trans s4), _, rfl, _, _, rfl, rfl, _, rfl, ite2 (fun c => ?_) (fun _ => ?_)⟩
          · have := of_decide_eq_true c
            omega
          · exact ⟨s4, _, _, rfl⟩
      · refine ⟨_, rfl, _, rfl, _, rfl, _, _, rfl, rfl, _, rfl, _, rfl, z, [], i, rfl, hI.same (s2.trans s4), _, rfl, _, _, rfl, rfl, .ref p, z, rows, (i : Int) - 1, j, (by show [V.ref p, z, V.int ((i : Int) - 1), V.int (partAt [] i + (j : Int))] = _; rw [ez]), hX'.same (s2.trans s4), hI.same (s2.trans s4), _, rfl, _, _, rfl, rfl, _, rfl, ite2 (fun c => ?_) (fun _ => ?_)⟩
        · have := of_decide_eq_true c
          omega
        · exact ⟨s4, _, _, rfl⟩
    · obtain ⟨s3, v5, v6, rfl⟩ := hp
      exact ⟨s2.trans s3, _, _, _, _, rfl⟩
  · exact q _ hp.1
abbrev s_check_pair : Stmt := topS 25
abbrev n_check_pair : List Str := ["p", "q", "row", "outer"]
theorem sc_check_pair : FnScope n_check_pair ["p", "q"] (defScope s_check_pair) := ⟨rfl, rfl, rfl, by decide +kernel, rfl, by decide +kernel, by decide +kernel⟩
def CheckOk (p q : List (List Int)) : Prop := isPartitionM (-1) (p.map fun r => (r.length : Int)) = true ∧ FillOk p (p.map fun r => (r.length : Int)) ∧ FillOk q (p.map fun r => (r.length : Int))
def spCheckPair (K : PySem.W.Frag) : Sp := fun vs H Q _ => ∃ (x y : V) (p q : List (List Int)), vs = [x, y] ∧ IsF K H x p ∧ IsF K H y q ∧ p.length ≤ 1000 ∧ CheckOk p q ∧ ∀ H', Same H H' → Q .non H'
theorem ok_check_pair {k : Nat} {e : Addr} (F : Dfn K mg "_check_pair" s_check_pair ["p", "q"] []) (c_is_partition : Can P w K mg base k "is_partition" (spIsPartition K) []) (c_is_filling : Can P w K mg base k "is_filling" (spIsFilling K) [.ref e]) (he : ∀ H, IsP K H (.ref e) []) (m_tuple : mg "tuple" = none) (m_isinstance : mg "isinstance" = none) (m_len : mg "len" = none) :
    Can P w K mg base (k + 1) "_check_pair" (spCheckPair K) [] := by
  refine F.can sc_check_pair (fun vs H Q E h => ?_) (fun f cdv A outer_ s H vs Q E hr h => ?_)
  · obtain ⟨x, y, p, q, rfl, _⟩ := h
    rfl
  obtain ⟨x, y, p, q, rfl, hX, hY, hl, ⟨h1, h2, h3⟩, qq⟩ := h
  have hX' := hX
  have hY' := hY
  obtain ⟨a, rws, rfl, hR, pR⟩ := hX
  obtain ⟨b, rws2, rfl, hR2, pR2⟩ := hY
  have lR := pLen pR
  refine ⟨_, (pss_cons (ps_if (PW.pt (pw_or (pt_not (pt_val (pe_callB call_isi (by rfl) m_isinstance (by decide +kernel) (pa_cons (pv 0) (pa_cons (pe_bltn (v := .ty "tuple") (by rfl) m_tuple (by decide +kernel) rfl) pa_nil))))) (pw_or1 (pt_not (pt_val (pe_callB call_isi (by rfl) m_isinstance (by decide +kernel) (pa_cons (pv 1) (pa_cons (pe_bltn (v := .ty "tuple") (by rfl) m_tuple (by decide +kernel) rfl) pa_nil)))))))) (pss_one ps_never) pss_nil)
      (pss_cons (ps_for PassesOwn.never rfl (pi_tup (pv 0)) (pg_name (i := 2) sc_check_pair.nd rfl (.inl rfl))
      (pss_one (ps_if (pt_not (pt_val (pe_callB call_isi (by rfl) m_isinstance (by decide +kernel) (pa_cons (pv 2) (pa_cons (pe_bltn (v := .ty "tuple") (by rfl) m_tuple (by decide +kernel) rfl) pa_nil))))) (pss_one ps_never) pss_nil)))
      (pss_cons (ps_set (i := 3) sc_check_pair.nd rfl (.inl rfl) (pe_callTy (tupleK (K := K) rfl) (by rfl) m_tuple (by decide +kernel) (pa_cons (pe_lc (own := [("row", 2)]) (g := gName 2) (tt := tYes) (by rfl) sc_check_pair.nd (pi_tup (pv 0)) (blkOk_by (own := [("row", 2)]) (N := n_check_pair) (sc := defScope s_check_pair) (by decide +kernel)) (fun _ _ _ _ _ => (pg_name (i := 2) sc_check_pair.nd rfl (.inl rfl))) (fun _ _ _ _ _ => pts_nil) (fun _ _ _ _ _ => (pe_callB (lenK (K := K) rfl) (by rfl) m_len (by decide +kernel) (pa_cons (pv 2) pa_nil)))) pa_nil)))
      (pss_one (ps_if (PW.pt (pw_or (pt_not (pt_val (pe_can c_is_partition hr (Nat.le_refl _) (by rfl) (pa_cons (pv 3) pa_nil)))) (pw_or (pt_not (pt_val (pe_can c_is_filling hr (Nat.le_refl _) (by rfl) (pa_cons (pv 0) (pa_cons (pv 3) pa_nil))))) (pw_or1 (pt_not (pt_val (pe_can c_is_filling hr (Nat.le_refl _) (by rfl) (pa_cons (pv 1) (pa_cons (pv 3) pa_nil))))))))) (pss_one ps_never) pss_nil))))), ?_⟩
  refine ⟨_, rfl, _, _, _, _, true, rfl, .ty "tuple", tyx_tup hR, kit_ty (by decide +kernel), _, rfl, iteF ?_⟩
  refine ⟨_, rfl, _, _, _, _, true, rfl, .ty "tuple", tyx_tup hR2, kit_ty (by decide +kernel), _, rfl, iteF ?_⟩
  refine ⟨_, rfl, a, rfl, ⟨_, hR⟩, ?_⟩
  refine for_it (walk_tup (xs := rws)) (fun i σ H' => H' = H ∧ ∃ v2 v3, σ = [some (.ref a), some (.ref b), v2, v3]) ⟨rfl, none, none, rfl⟩ (fun i σ H' _ hp => by rw [hp.1]; exact hR) (fun i x σ H1 H2 hi hp hy => ?_) (fun σ H1 hp => ?_)
  · obtain ⟨rfl, v2, v3, rfl⟩ := hp
    obtain ⟨rfl, hx⟩ := hy
    obtain ⟨r, _, c, rfl, hC⟩ := pAt pR hx
    exact ⟨_, rfl, _, _, _, _, true, rfl, .ty "tuple", tyx_tup hC, kit_ty (by decide +kernel), _, rfl, iteF ⟨rfl, _, _, rfl⟩⟩
  · obtain ⟨rfl, v2, v3, rfl⟩ := hp
    refine ⟨_, rfl, a, rfl, ⟨_, hR⟩, fun D hD => ?_⟩
    refine lc_pure (walk_tup (xs := rws)) IsI stayI (fun i => some ((p.getD i []).length : Int)) hD (by omega) (fun H2 s => sameT s hR) (fun i x H2 H3 K1 K2 hi s1 y k1 k2 => ?_) (fun H2 acc s2 hacc hp => ?_)
    · obtain ⟨rfl, hx⟩ := y
      obtain ⟨r, hr', c, rfl, hC⟩ := pAt pR hx
      refine ⟨rfl, tyes ⟨_, rfl, c, _, rfl, .inr (sameT s1 hC), ?_⟩⟩
      refine k1 _ _ _ (Same.refl _) rfl ?_
      rw [getDs hr', List.length_map]
      rfl
    · have e2 := (fm_getD p [] (fun r => some (r.length : Int))).trans (fm_map (fun r : List Int => (r.length : Int)) p)
      rw [lR, e2] at hp
      rw [pIntMap hp] at hacc
      refine ⟨D, _, rfl, .inl ⟨SqL.of hacc, fun l hl' => ?_⟩⟩
      have s3 := s2.trans (same_new hl' (.tup ((p.map fun r => (r.length : Int)).map V.int)))
      have hO : IsP K (upd H2 l (.tup ((p.map fun r => (r.length : Int)).map V.int))) (.ref l) (p.map fun r => (r.length : Int)) := ⟨l, rfl, SqT.of upd_same⟩
      generalize upd H2 l (.tup ((p.map fun r => (r.length : Int)).map V.int)) = H3 at s3 hO
      refine ⟨_, rfl, _, _, rfl, hO, h1, _, rfl, iteF ?_⟩
      refine ⟨_, rfl, _, rfl, _, _, _, p, _, rfl, hX'.same s3, hO, he _, h2, fun H4 s4 => ⟨_, rfl, iteF ?_⟩⟩
      exact ⟨_, rfl, _, rfl, _, _, _, q, _, rfl, hY'.same (s3.trans s4), hO.same s4, he _, h3, fun H5 s5 => ⟨_, rfl, iteF (qq _ (s3.trans (s4.trans s5)))⟩⟩
end
end K19

namespace K19
open PySem PySem.Spec PyProof.Rows L2
/-! ### a list of lists that is changed by place -/
structure LL (H0 H : Hp) (o : Addr) (as : List Addr) (M : List (List Int)) : Prop where
  same : Same H0 H
  at_ : H o = some (.lst (as.map V.ref))
  nd : as.Nodup
  off : o ∉ as
  o0 : H0 o = none
  a0 : ∀ a ∈ as, H0 a = none
  rows : Paired (fun a r => H a = some (.lst (r.map V.int))) as M
theorem getD_mem' {α : Type} {M : List α} {i : Nat} (d : α) (h : i < M.length) : M.getD i d ∈ M := by
  have e : M.getD i d = M[i] := by simp [List.getD, List.getElem?_eq_getElem h]
  rw [e]
  exact List.getElem_mem h
theorem pAllAt {α β : Type} {R R' : α → β → Prop} {as : List α} {M : List β} (p : Paired R as M) : (∀ (j : Nat) (b : α) (m : β), as[j]? = some b → M[j]? = some m → R b m → R' b m) → Paired R' as M := by
  induction p with
  | nil => intro _; exact .nil
  | cons r0 t0 ih => intro g; exact .cons (g 0 _ _ rfl rfl r0) (ih fun j b m h1 h2 h3 => g (j + 1) b m (by simpa using h1) (by simpa using h2) h3)
theorem pSet {α β : Type} {R R' : α → β → Prop} : ∀ {as : List α} {M : List β} {k : Nat} {a : α} {r : β}, Paired R as M → as[k]? = some a → R' a r → (∀ (j : Nat) (b : α) (m : β), j ≠ k → as[j]? = some b → M[j]? = some m → R b m → R' b m) → Paired R' as (M.set k r)
  | [], _, _, _, _, .nil, h, _, _ => by simp at h
  | a :: as, m :: M, 0, b, r, .cons _ t, h, q, f => by
    have e : a = b := by simpa using h
    subst e
    exact .cons q (pAllAt t fun j b m h1 h2 h3 => f (j + 1) b m (by omega) (by simpa using h1) (by simpa using h2) h3)
  | a :: as, m :: M, k + 1, b, r, .cons r0 t, h, q, f => .cons (f 0 a m (by omega) rfl rfl r0) (pSet t (by simpa using h) q fun j b m hj h1 h2 h3 => f (j + 1) b m (by omega) (by simpa using h1) (by simpa using h2) h3)
theorem nd_at {as : List Addr} (h : as.Nodup) {j k : Nat} {a : Addr} (h1 : as[j]? = some a) (h2 : as[k]? = some a) : j = k := by
  obtain ⟨l1, e1⟩ := List.getElem?_eq_some_iff.mp h1
  obtain ⟨l2, e2⟩ := List.getElem?_eq_some_iff.mp h2
  exact (List.getElem_inj h).mp (e1.trans e2.symm)
theorem LL.set {H0 H : Hp} {o : Addr} {as : List Addr} {M : List (List Int)} (h : LL H0 H o as M) {k : Nat} {a : Addr} {r : List Int} (ha : as[k]? = some a) : LL H0 (upd H a (.lst (r.map V.int))) o as (M.set k r) := by
  have hm := List.mem_of_getElem? ha
  refine ⟨same_upd_new (h.a0 a hm) h.same, ?_, h.nd, h.off, h.o0, h.a0, pSet h.rows ha upd_same fun j b m hj h1 _ h3 => ?_⟩
  · rw [upd_ne (fun e => h.off (by rw [e]; exact hm))]
    exact h.at_
  · rw [upd_ne (fun e => hj (nd_at h.nd (by rw [← e]; exact h1) ha))]
    exact h3
theorem LL.mono {H0 H H' : Hp} {o : Addr} {as : List Addr} {M : List (List Int)} (h : LL H0 H o as M) (s : Same H H') : LL H0 H' o as M :=
  ⟨h.same.trans s, s _ _ h.at_, h.nd, h.off, h.o0, h.a0, Paired.mapP h.rows fun _ _ q => s _ _ q⟩
theorem LL.get {H0 H : Hp} {o : Addr} {as : List Addr} {M : List (List Int)} (h : LL H0 H o as M) {k : Nat} (hk : k < M.length) : ∃ a, as[k]? = some a ∧ (as.map V.ref)[k]? = some (.ref a) ∧ H a = some (.lst ((M.getD k []).map V.int)) := by
  obtain ⟨a, h1, h2⟩ := pAt' h.rows (getSome [] hk)
  exact ⟨a, h1, by rw [List.getElem?_map, h1]; rfl, h2⟩
section
variable {P : Program} {w : World} {K : PySem.W.Frag} {mg : Str → Option Value} {base : Heap}
abbrev s_taken : Stmt := topS 24
abbrev n_taken : List Str := ["rows", "i", "out", "x", "k", "at", "y", "row"]
theorem sc_taken : FnScope n_taken ["rows", "i"] (defScope s_taken) := ⟨rfl, rfl, rfl, by decide +kernel, rfl, by decide +kernel, by decide +kernel⟩
def IsPr {α : Type} (R : Hp → V → α → Prop) (K : PySem.W.Frag) (H : Hp) (v : V) (x : α × Int) : Prop := ∃ t u, v = .ref t ∧ SqT K H t [u, .int x.2] ∧ R H u x.1
def spTaken (K : PySem.W.Frag) : Sp := fun vs H Q _ => ∃ (x : V) (rows : List (List Int)) (i : Nat) (y : List (List Int) × Int), vs = [x, .int (i : Nat)] ∧ IsF K H x rows ∧ rows.length ≤ 1000 ∧ (∀ r ∈ rows, r.length ≤ 1000) ∧ takenM rows i = some y ∧ ∀ r H', Same H H' → IsPr (IsF K) K H' r y → Q r H'
theorem ok_taken {k : Nat} (F : Dfn K mg "taken" s_taken ["rows", "i"] []) (m_tuple : mg "tuple" = none) (m_list : mg "list" = none) (m_len : mg "len" = none) (m_range : mg "range" = none) :
    Can P w K mg base (k + 1) "taken" (spTaken K) [] := by
  refine F.can sc_taken (fun vs H Q E h => ?_) (fun f cdv A outer_ s H vs Q E hr h => ?_)
  · obtain ⟨x, rows, i, y, rfl, _⟩ := h
    rfl
  obtain ⟨x, rows, i, ⟨Mf, xf⟩, rfl, hX, hl, hrl, ht, q⟩ := h
  obtain ⟨p, rws, rfl, hR, pR⟩ := hX
  have lR := pLen pR
  have ht0 := ht
  unfold takenM at ht
  split at ht
  · cases ht
  rename_i hc
  rw [Bool.or_eq_true, Bool.or_eq_true, Bool.and_eq_true, decide_eq_true_eq, decide_eq_true_eq, decide_eq_true_eq, decide_eq_true_eq, not_or, not_or] at hc
  obtain ⟨⟨hc1, hc2⟩, hc3⟩ := hc
  have hi : i < rows.length := by omega
  obtain ⟨ri, eri⟩ : ∃ ri, ri = rows.getD i [] := ⟨_, rfl⟩
  rw [← eri] at hc2 hc3 ht
  obtain ⟨ai, hai1, bi, rfl, hbi⟩ := pAt' pR (getSome [] hi)
  rw [← eri] at hbi
  refine ⟨_, (pss_cons (ps_if (PW.pt (pw_or (pt_cmpR op_lt (pv 1) pe_int (nomark _)) (pw_or (pt_cmpR op_ge (pv 1) (pe_callB (lenK (K := K) rfl) (by rfl) m_len (by decide +kernel) (pa_cons (pv 0) pa_nil)) (nomark _)) (pw_or1 (PW.pt (pw_and (pt_cmpR op_lt (pe_op op_add (pv 1) pe_int) (pe_callB (lenK (K := K) rfl) (by rfl) m_len (by decide +kernel) (pa_cons (pv 0) pa_nil)) (nomark _)) (pw_and1 (pt_cmpR op_eq (pe_callB (lenK (K := K) rfl) (by rfl) m_len (by decide +kernel) (pa_cons (pe_ix (ixT (K := K) rfl) (pv 0) (pe_op op_add (pv 1) pe_int) (fun _ _ => rfl)) pa_nil)) (pe_callB (lenK (K := K) rfl) (by rfl) m_len (by decide +kernel) (pa_cons (pe_ix (ixT (K := K) rfl) (pv 0) (pv 1) (fun _ _ => rfl)) pa_nil)) (nomark _))))))))) (pss_one ps_never) pss_nil)
      (pss_cons (ps_setLc (i := 2) (own := [("row", 7)]) (g := gName 7) (tt := tYes) (by rfl) sc_taken.nd rfl rfl (sw_true rfl rfl rfl (by decide +kernel)) (pi_tup (pv 0)) (blkOk_by (own := [("row", 7)]) (N := n_taken) (sc := defScope s_taken) (by decide +kernel)) (fun _ _ _ _ _ => (pg_name (i := 7) sc_taken.nd rfl (.inl rfl))) (fun _ _ _ _ _ => pts_nil) (fun _ _ _ _ _ => (pe_callTy (listK (K := K) rfl) (by rfl) m_list (by decide +kernel) (pa_cons (pv 7) pa_nil))))
      (pss_cons (ps_set (i := 3) sc_taken.nd rfl (.inr rfl) (pe_bm0 PySem.F.plainAttrs_list PySem.F.slot_list_pop PySem.F.type_list_pop mt_pop (pe_ix (ixL (K := K) rfl) (pv 2) (pv 1) (fun _ _ => rfl))))
      (pss_cons (ps_for PassesOwn.never rfl (pi_range3 (by rfl) m_range (pa_cons (pe_op op_sub (pv 1) pe_int) (pa_cons (pe_un un_neg pe_int) (pa_cons (pe_un un_neg pe_int) pa_nil)))) (pg_name (i := 4) sc_taken.nd rfl (.inl rfl))
      (pss_cons (ps_set (i := 5) sc_taken.nd rfl (.inl rfl) (pe_op op_sub (pe_callB (lenK (K := K) rfl) (by rfl) m_len (by decide +kernel) (pa_cons (pe_lc (own := [("y", 6)]) (g := gName 6) (by rfl) sc_taken.nd (pi_list (pe_ix (ixL (K := K) rfl) (pv 2) (pv 4) (fun _ _ => rfl))) (blkOk_by (own := [("y", 6)]) (N := n_taken) (sc := defScope s_taken) (by decide +kernel)) (fun _ _ _ _ _ => (pg_name (i := 6) sc_taken.nd rfl (.inl rfl))) (fun _ _ _ _ _ => (pts_one (pt_cmpR op_lt (pv 6) (pv 3) (nomark _)))) (fun _ _ _ _ _ => (pv 6))) pa_nil)) pe_int))
      (pss_cons (ps_set (i := 6) sc_taken.nd rfl (.inl rfl) (pe_ix (ixL (K := K) rfl) (pe_ix (ixL (K := K) rfl) (pv 2) (pv 4) (fun _ _ => rfl)) (pv 5) (fun _ _ => rfl)))
      (pss_cons (ps_asg (pv 3) (pg_sub (pe_ix (ixL (K := K) rfl) (pv 2) (pv 4) (fun _ _ => rfl)) (pv 5) set_list))
      (pss_one (ps_set (i := 3) sc_taken.nd rfl (.inr rfl) (pv 6)))))))
      (pss_one (ps_ret (pe_tup (pa_cons (pe_callTy (tupleK (K := K) rfl) (by rfl) m_tuple (by decide +kernel) (pa_cons (pe_lc (own := [("row", 7)]) (g := gName 7) (by rfl) sc_taken.nd (pi_list (pv 2)) (blkOk_by (own := [("row", 7)]) (N := n_taken) (sc := defScope s_taken) (by decide +kernel)) (fun _ _ _ _ _ => (pg_name (i := 7) sc_taken.nd rfl (.inl rfl))) (fun _ _ _ _ _ => (pts_one (pt_cmpR op_gt (pe_callB (lenK (K := K) rfl) (by rfl) m_len (by decide +kernel) (pa_cons (pv 7) pa_nil)) pe_int (nomark _)))) (fun _ _ _ _ _ => (pe_callTy (tupleK (K := K) rfl) (by rfl) m_tuple (by decide +kernel) (pa_cons (pv 7) pa_nil)))) pa_nil)) (pa_cons (pv 3) pa_nil))))))))), ?_⟩
  refine (fun key => (⟨_, rfl, _, _, rfl, rfl, _, rfl, ite2 (fun c => ?g1) (fun _ => ⟨_, rfl, _, rfl, p, _, rfl, .inr hR, _, _, rfl, rfl, _, rfl, ite2 (fun c => ?g2) (fun _ => ⟨_, rfl, _, _, rfl, rfl, _, rfl, p, _, rfl, .inr hR, _, _, rfl, rfl, _, rfl, ite2 (fun c => ?g3) (fun _ => iteF key)⟩)⟩)⟩ : _)) ?g0
  case g1 =>
    have := of_decide_eq_true c
    omega
  case g2 =>
    have := of_decide_eq_true c
    omega
  case g3 =>
    have c1 := of_decide_eq_true c
    have hi1 : i + 1 < rows.length := by omega
    obtain ⟨_, hj1, bj, rfl, hbj⟩ := pAt' pR (getSome [] hi1)
    refine ⟨_, rfl, _, rfl, _, _, rfl, rfl, p, _, _, _, rfl, rfl, hR, atI_nat (j := i + 1) hj1, bj, _, rfl, .inr hbj, _, rfl, _, rfl, p, _, _, _, rfl, rfl, hR, atI_nat hai1, bi, _, rfl, .inr hbi, rfl, _, rfl, ite2 (fun c2 => ?_) (fun _ => key)⟩
    have e := V.int.inj (of_decide_eq_true c2)
    rw [List.length_map, List.length_map] at e
    exact (hc2 ⟨hi1, by omega⟩).elim
  refine ⟨_, rfl, p, rfl, ⟨_, hR⟩, fun D hD => ?_⟩
  refine lc_it (walk_tup (xs := rws)) (fun j H' => ∃ as, LL H H' D as (rows.take j)) ⟨[], same_new hD _, upd_same, List.nodup_nil, List.not_mem_nil, hD, fun _ h => absurd h List.not_mem_nil, .nil⟩ (fun j H' _ hp => by
    obtain ⟨as, hL⟩ := hp
    exact sameT hL.same hR) (fun j x H1 H2 hj hp hy => ?_) (fun H1 hp => ?_)
  · obtain ⟨as, hL⟩ := hp
    obtain ⟨rfl, hx⟩ := hy
    obtain ⟨r, hr', b, rfl, hB⟩ := pAt pR hx
    refine ⟨rfl, tyes ⟨_, rfl, b, _, rfl, .inr (sameT hL.same hB), fun l hl' => ?_⟩⟩
    have s2 := same_new hl' (.lst (r.map V.int))
    have hlen : (as.map V.ref).length < sizeLine := by
      rw [List.length_map, pLen hL.rows, List.length_take]
      exact sz (by omega)
    refine ⟨_, s2 _ _ hL.at_, hlen, as ++ [l], ?_⟩
    have n1 : l ∉ as := fun h => by
      obtain ⟨j', hj'⟩ := List.getElem?_of_mem h
      obtain ⟨_, _, e⟩ := pAt hL.rows hj'
      rw [hl'] at e
      cases e
    have n2 : D ≠ l := ne_of_none hL.at_ hl'
    refine ⟨same_upd_new hD (hL.same.trans s2), ?_, ?_, ?_, hD, fun a ha => ?_, ?_⟩
    · rw [upd_same, List.map_append]
      rfl
    · refine List.nodup_append.mpr ⟨hL.nd, List.pairwise_singleton _ _, fun a ha b hb e => ?_⟩
      rw [List.mem_singleton.mp hb] at e
      exact n1 (e ▸ ha)
    · intro h
      rcases List.mem_append.mp h with h | h
      · exact hL.off h
      · exact n2 (List.mem_singleton.mp h)
    · rcases List.mem_append.mp ha with h | h
      · exact hL.a0 a h
      · rw [List.mem_singleton.mp h]
        exact hL.same.free hl'
    · have e : rows.take (j + 1) = rows.take j ++ [r] := by rw [List.take_add_one, hr']; rfl
      rw [e]
      refine pApp (pAllAt hL.rows fun j' b' m h1 _ h3 => ?_) (.cons ?_ .nil)
      · rw [upd_ne (fun e => hL.off (by rw [← e]; exact List.mem_of_getElem? h1))]
        exact s2 _ _ h3
      · rw [upd_ne n2.symm]
        exact upd_same
  obtain ⟨as, hL⟩ := hp
  rw [lR, List.take_of_length_le (Nat.le_refl _)] at hL
  obtain ⟨a1, ha1, hav1, hA1⟩ := hL.get hi
  rw [← eri] at hA1
  have hlast : (ri.map V.int)[(ri.map V.int).length - 1]? = some (.int (ri.getD (ri.length - 1) 0)) := by
    rw [List.length_map]
    exact getI (by omega)
  refine ⟨_, rfl, _, rfl, D, _, _, _, rfl, rfl, SqL.of hL.at_, atI_nat hav1, .inl ⟨rfl, _, SqL.of hA1⟩, a1, _, _, rfl, rfl, hA1, hlast, ?_⟩
  have hL2 := hL.set (r := ri.dropLast) ha1
  rw [List.map_dropLast] at hL2
  generalize upd H1 a1 (.lst (ri.map V.int).dropLast) = H2 at hL2
  cases hg : goUp i (rows.set i ri.dropLast) (ri.getD (ri.length - 1) 0) with
  | none => rw [hg] at ht; cases ht
  | some res =>
  rw [hg] at ht
  obtain ⟨Mg, xg⟩ := res
  have e1 := Option.some.inj ht
  have eMf : Mf = Mg.filter fun row => decide (0 < row.length) := (congrArg Prod.fst e1).symm
  have exf : xf = xg := (congrArg Prod.snd e1).symm
  refine ⟨_, rfl, _, _, rfl, rfl, _, rfl, _, rfl, _, _, _, _, rfl, RgC.neg (by omega) (by omega) (by omega) (by omega), ?_⟩
  have en : ((i : Int) - 1 - -1).toNat = i := by omega
  rw [en]
  refine for_it (walk_rangeC) (fun t σ H' => ∃ M xx v4 v5 v6 v7, σ = [some (.ref p), some (.int (i : Nat)), some (.ref D), some (.int xx), v4, v5, v6, v7] ∧ LL H H' D as M ∧ M.length = rows.length ∧ (∀ r ∈ M, r.length ≤ 1000) ∧ goUp (i - t) M xx = some (Mg, xg)) ⟨_, _, none, none, none, none, rfl, hL2, by rw [List.length_set], ?_, hg⟩ (fun _ _ _ _ _ => trivial) (fun t x σ H3 H4 ht hp hy => ?_) (fun σ H3 hp => ?_)
  · intro r hr'
    rcases List.mem_or_eq_of_mem_set hr' with h | h
    · exact hrl r h
    · rw [h, List.length_dropLast]
      have : ri.length ≤ 1000 := by
        rw [eri]
        exact hrl _ (getD_mem' [] hi)
      omega
  · obtain ⟨M, xx, v4, v5, v6, v7, rfl, hLL, hMl, hMr, hgo⟩ := hp
    obtain ⟨rfl, rfl⟩ := hy
    obtain ⟨kk, hkk⟩ : ∃ kk, i - t = kk + 1 := ⟨i - t - 1, by omega⟩
    have ek : (i : Int) - 1 + (t : Nat) * (-1) = ((kk : Nat) : Int) := by omega
    have hkl : kk < M.length := by omega
    obtain ⟨rk, erk⟩ : ∃ rk, rk = M.getD kk [] := ⟨_, rfl⟩
    rw [hkk] at hgo
    unfold goUp at hgo
    simp only [← erk] at hgo
    split at hgo
    · cases hgo
    rename_i hcnt
    obtain ⟨c, ec⟩ : ∃ c, c = (rk.filter fun y => decide (y < xx)).length := ⟨_, rfl⟩
    rw [← ec] at hcnt hgo
    have hcl : c ≤ rk.length := by rw [ec]; exact List.length_filter_le _ _
    have hrkl : rk.length ≤ 1000 := by
      rw [erk]
      exact hMr _ (getD_mem' [] hkl)
    obtain ⟨a2, ha2, hav2, hA2⟩ := hLL.get hkl
    rw [← erk] at hA2
    show gName 4 (V.int ((i : Int) - 1 + (t : Nat) * (-1))) _ _ _
    rw [ek]
    refine ⟨_, rfl, _, rfl, D, _, _, _, rfl, rfl, SqL.of hLL.at_, atI_nat hav2, a2, rfl, ⟨_, SqL.of hA2⟩, fun D2 hD2 => ?_⟩
    refine lc_pure (walk_list (xs := rk.map V.int)) IsI stayI (fun j => if rk.getD j 0 < xx then some (rk.getD j 0) else none) hD2 (by rw [List.length_map]; omega) (fun H5 s5 => s5.seq (SqL.of hA2)) (fun j x H5 H6 K1 K2 hj s5 hy k1 k2 => ?_) (fun H5 acc s5 hacc hpa => ?_)
    · obtain ⟨rfl, hx⟩ := hy
      rw [List.length_map] at hj
      rw [getI hj] at hx
      obtain rfl := Option.some.inj hx
      refine ⟨rfl, _, rfl, _, rfl, _, _, rfl, rfl, _, rfl, ite2 (fun c => ?_) (fun c => ?_)⟩
      · exact ⟨_, rfl, k1 _ _ _ (Same.refl _) (if_pos (of_decide_eq_true c)) rfl⟩
      · exact k2 _ (Same.refl _) (if_neg (of_decide_eq_false (Bool.eq_false_iff.mpr c)))
    · have ecc : acc.length = c := by
        rw [pLen hpa, ec, List.length_map]
        have e1 := fm_getD rk 0 (fun z => if z < xx then some z else none)
        have e2 := fm_filter (fun z : Int => decide (z < xx)) rk
        simp only [decide_eq_true_eq] at e2
        rw [e1, e2]
      have hL5 := hLL.mono s5
      have hA5 := s5 _ _ hA2
      have eat : ((acc.length : Nat) : Int) - 1 = ((c - 1 : Nat) : Int) := by omega
      refine ⟨D2, _, rfl, .inl (SqL.of hacc), _, _, rfl, rfl, ?_⟩
      show gName 5 (V.int (((acc.length : Nat) : Int) - 1)) _ _ _
      rw [eat]
      refine ⟨_, rfl, _, rfl, D, _, _, _, rfl, rfl, SqL.of hL5.at_, atI_nat hav2, _, rfl, a2, _, _, _, rfl, rfl, SqL.of hA5, atI_nat (getI (by omega)), ?_⟩
      have eix : ixN (rk.map V.int).length ((c - 1 : Nat) : Int) = some (c - 1) := by
        unfold ixN
        rw [List.length_map, if_pos (by omega), if_pos (by omega), Int.toNat_natCast]
      refine ⟨_, rfl, _, rfl, _, rfl, D, _, _, _, rfl, rfl, SqL.of hL5.at_, atI_nat hav2, _, rfl, a2, _, _, _, rfl, rfl, hA5, eix, ?_⟩
      refine ⟨_, rfl, M.set kk (rk.set (c - 1) xx), _, _, _, _, _, rfl, ?_, by rw [List.length_set]; exact hMl, ?_, ?_⟩
      · have h6 := hL5.set (r := rk.set (c - 1) xx) ha2
        rw [List.map_set] at h6
        exact h6
      · intro r hr'
        rcases List.mem_or_eq_of_mem_set hr' with h | h
        · exact hMr r h
        · rw [h, List.length_set]
          exact hrkl
      · have e : i - (t + 1) = kk := by omega
        rw [e]
        exact hgo
  · obtain ⟨M, xx, v4, v5, v6, v7, rfl, hLL, hMl, hMr, hgo⟩ := hp
    rw [Nat.sub_self] at hgo
    unfold goUp at hgo
    have e2 := Option.some.inj hgo
    have eM : M = Mg := congrArg Prod.fst e2
    have ex : xx = xg := congrArg Prod.snd e2
    refine ⟨_, rfl, D, rfl, ⟨_, SqL.of hLL.at_⟩, fun D2 hD2 => ?_⟩
    refine lc_pure (walk_list (xs := as.map V.ref)) (IsP K) (stayP K) (fun j => if 0 < (M.getD j []).length then some (M.getD j []) else none) hD2 (by rw [List.length_map, pLen hLL.rows, hMl]; omega) (fun H5 s5 => s5.seq (SqL.of hLL.at_)) (fun j x H5 H6 K1 K2 hj s5 hy k1 k2 => ?_) (fun H5 acc s5 hacc hpa => ?_)
    · obtain ⟨rfl, hx⟩ := hy
      rw [List.length_map, pLen hLL.rows] at hj
      obtain ⟨a3, ha3, hav3, hA3⟩ := hLL.get hj
      rw [hav3] at hx
      obtain rfl := Option.some.inj hx
      have hA3' := s5 _ _ hA3
      refine ⟨rfl, _, rfl, a3, _, rfl, .inl (SqL.of hA3'), _, _, rfl, rfl, _, rfl, ite2 (fun c => ?_) (fun c => ?_)⟩
      · have c1 := of_decide_eq_true c
        rw [List.length_map] at c1
        refine ⟨_, rfl, a3, _, rfl, .inl ⟨SqL.of hA3', fun l hl' => ?_⟩⟩
        exact k1 _ _ _ (same_new hl' _) (if_pos (by omega)) ⟨l, rfl, SqT.of upd_same⟩
      · have c1 := of_decide_eq_false (Bool.eq_false_iff.mpr c)
        rw [List.length_map] at c1
        exact k2 _ (Same.refl _) (if_neg (by omega))
    · have e3 : ((List.range (as.map V.ref).length).filterMap fun j => if 0 < (M.getD j []).length then some (M.getD j []) else none) = Mf := by
        rw [List.length_map, pLen hLL.rows, eMf, ← eM]
        have e1 := fm_getD M [] (fun z => if 0 < z.length then some z else none)
        have e2 := fm_filter (fun z : List Int => decide (0 < z.length)) M
        simp only [decide_eq_true_eq] at e2
        rw [e1, e2]
      rw [e3] at hpa
      refine ⟨D2, _, rfl, .inl ⟨SqL.of hacc, fun l hl' => ⟨_, rfl, by show 2 ≤ sizeLine; decide, fun l2 hl2 => ?_⟩⟩⟩
      have s6 := same_new hl' (.tup acc)
      have s7 := same_new hl2 (.tup [.ref l, .int xx])
      refine q _ _ (hLL.same.trans (s5.trans (s6.trans s7))) ⟨l2, .ref l, rfl, ?_, l, acc, rfl, SqT.of (s7 _ _ upd_same), (stayP K).all (s6.trans s7) hpa⟩
      rw [exf, ← ex]
      exact SqT.of upd_same
end
end K19

namespace K19
open PySem PySem.Spec PyProof.Rows L2
theorem maxL_mem : ∀ {l : List (List Int)}, l ≠ [] → maxL l ∈ l
  | [], h => absurd rfl h
  | x :: xs, _ => by
    unfold maxL
    have key : ∀ (xs : List (List Int)) (a : List Int), xs.foldl (fun a y => if lt1 a y = true then y else a) a ∈ a :: xs := by
      intro xs
      induction xs with
      | nil => intro a; exact List.mem_cons_self ..
      | cons y r ih =>
        intro a
        rw [List.foldl_cons]
        have := ih (if lt1 a y = true then y else a)
        rcases List.mem_cons.mp this with h | h
        · rw [h]
          split
          · exact List.mem_cons_of_mem _ (List.mem_cons_self ..)
          · exact List.mem_cons_self ..
        · exact List.mem_cons_of_mem _ (List.mem_cons_of_mem _ h)
    exact key xs x
theorem lastPlace_ok {q : List (List Int)} (h : q ≠ []) : ∃ a b : Int, maxL (lastKeys q) = [a, b, (lastPlace q : Int)] ∧ lastPlace q < q.length := by
  have hn : lastKeys q ≠ [] := by
    intro e
    have := congrArg List.length e
    unfold lastKeys at this
    rw [List.length_map, List.length_range] at this
    exact h (List.length_eq_zero_iff.mp this)
  have hm := maxL_mem hn
  unfold lastKeys at hm
  obtain ⟨i, hi, e⟩ := List.mem_map.mp hm
  have hi' := List.mem_range.mp hi
  have e2 : lastPlace q = i := by
    unfold lastPlace lastKeys
    rw [← e]
    rfl
  refine ⟨(q.getD i []).getD ((q.getD i []).length - 1) 0, ((q.getD i []).length : Int), ?_, by rw [e2]; exact hi'⟩
  rw [e2]
  exact e.symm
section
variable {P : Program} {w : World} {K : PySem.W.Frag} {mg : Str → Option Value} {base : Heap}
abbrev s_last_place : Stmt := topS 26
abbrev n_last_place : List Str := ["q", "found", "i", "row"]
theorem sc_last_place : FnScope n_last_place ["q"] (defScope s_last_place) := ⟨rfl, rfl, rfl, by decide +kernel, rfl, by decide +kernel, by decide +kernel⟩
def spLastPlace (K : PySem.W.Frag) : Sp := fun vs H Q _ => ∃ (x : V) (q : List (List Int)), vs = [x] ∧ IsF K H x q ∧ q ≠ [] ∧ q.length ≤ 1000 ∧ (∀ r ∈ q, r ≠ []) ∧ ∀ H', Same H H' → Q (.int (lastPlace q : Nat)) H'
theorem flat_map_sing {α : Type} (f : Nat → α) : ∀ n, (List.range n).flatMap (fun i => [f i]) = (List.range n).map f
  | 0 => rfl
  | n + 1 => by rw [List.range_succ, List.flatMap_append, List.map_append, flat_map_sing f n]; rfl
theorem ok_last_place {k : Nat} (F : Dfn K mg "_last_place" s_last_place ["q"] []) (m_len : mg "len" = none) (m_enumerate : mg "enumerate" = none) (m_max : mg "max" = none) :
    Can P w K mg base (k + 1) "_last_place" (spLastPlace K) [] := by
  refine F.can sc_last_place (fun vs H Q E h => ?_) (fun f cdv A outer_ s H vs Q E hr h => ?_)
  · obtain ⟨x, q, rfl, _⟩ := h
    rfl
  obtain ⟨x, q, rfl, ⟨p, rws, rfl, hR, pR⟩, hne, hl, hrn, qq⟩ := h
  have lR := pLen pR
  refine ⟨_, (pss_cons (ps_set (i := 1) sc_last_place.nd rfl (.inl rfl) (pe_lst pa_nil))
      (pss_cons (ps_for PassesOwn.never rfl (pi_enumT (by rfl) m_enumerate (pa_cons (pv 0) pa_nil)) (pgTK (K := K) rfl (by rfl) (pgs_cons (pg_name (i := 2) sc_last_place.nd rfl (.inl rfl)) (pgs_cons (pg_name (i := 3) sc_last_place.nd rfl (.inl rfl)) pgs_nil)))
      (pss_one (ps_expr (pe_bm PySem.F.plainAttrs_list PySem.F.slot_list_append PySem.F.type_list_append mt_append (pv 1) (pa_cons (pe_tup (pa_cons (pe_ix (ixT (K := K) rfl) (pv 3) (pe_op op_sub (pe_callB (lenK (K := K) rfl) (by rfl) m_len (by decide +kernel) (pa_cons (pv 3) pa_nil)) pe_int) (fun _ _ => rfl)) (pa_cons (pe_callB (lenK (K := K) rfl) (by rfl) m_len (by decide +kernel) (pa_cons (pv 3) pa_nil)) (pa_cons (pv 2) pa_nil)))) pa_nil)))))
      (pss_one (ps_ret (pe_ix (ixT (K := K) rfl) (pe_callB (cr_maxP rfl hr.units) (by rfl) m_max (by decide +kernel) (pa_cons (pv 1) pa_nil)) pe_int (fun _ _ => rfl)))))), ?_⟩
  refine ⟨by decide, fun D hD => ?_⟩
  have s1 := same_new hD (.lst [])
  refine ⟨_, rfl, p, _, rfl, sameT s1 hR, ?_⟩
  refine for_acc (walk_enumT (xs := rws)) (R := IsP K) (D := D) (fun σ => ∃ v2 v3, σ = [some (.ref p), some (.ref D), v2, v3]) [] (fun i : Nat => [[(q.getD i []).getD ((q.getD i []).length - 1) 0, ((q.getD i []).length : Int), (i : Int)]]) ⟨_, _, rfl⟩ upd_same .nil (fun H1 s2 => sameT (s2.same hD s1) hR) (fun i x σ H1 H2 acc N hi hsg s2 hy hacc hp kk => ?_) (fun σ H1 acc hsg s2 hacc hp => ?_)
  · obtain ⟨v2, v3, rfl⟩ := hsg
    obtain ⟨T, xi, xr, rfl, hT, rfl, ei, er⟩ := hy
    obtain rfl := Option.some.inj ei
    have s3 := same_new hT (.tup [.int (i : Nat), xr])
    have s2' : Same H H1 := s2.same hD s1
    have hTT : SqT K (upd H1 T (.tup [.int (i : Nat), xr])) T [.int (i : Nat), xr] := SqT.of upd_same
    generalize upd H1 T (.tup [.int (i : Nat), xr]) = H2 at s3 hTT
    obtain ⟨row, hrow, b, rfl, hB⟩ := pAt pR er
    have hB2 := sameT (s2'.trans s3) hB
    have hrl : 0 < row.length := List.length_pos_iff.mpr (hrn _ (List.mem_of_getElem? hrow))
    rw [flat_map_sing, getDs hrow] at kk
    rw [flat_map_sing] at hp
    have hacl := pLen hp
    rw [List.nil_append, List.length_map, List.length_range] at hacl
    have e1 : (((row.map V.int).length : Nat) : Int) - 1 = ((row.length - 1 : Nat) : Int) := by rw [List.length_map]; omega
    have e2 : atI (row.map V.int) ((((row.map V.int).length : Nat) : Int) - 1) = some (.int (row.getD (row.length - 1) 0)) := by
      rw [e1]
      exact atI_nat (getI (by omega))
    refine ⟨T, _, rfl, hTT, rfl, _, _, rfl, _, _, rfl, rfl, ?_⟩
    refine ⟨_, rfl, .inl ⟨rfl, _, SqL.of (s3 _ _ hacc)⟩, _, rfl, _, rfl, b, _, rfl, .inr hB2, _, _, rfl, rfl, b, _, _, _, rfl, rfl, hB2, e2, _, rfl, b, _, rfl, .inr hB2, _, rfl, by show 3 ≤ sizeLine; decide, fun T2 hT2 => ?_⟩
    have s4 := same_new hT2 (.tup [.int (row.getD (row.length - 1) 0), .int (((row.map V.int).length : Nat) : Int), .int (i : Nat)])
    refine ⟨D, acc, _, rfl, rfl, s4 _ _ (s3 _ _ hacc), sz (by omega), ?_⟩
    refine kk _ _ _ ⟨_, _, rfl⟩ (SamB.of (s3.trans s4)).upd upd_same ?_
    refine pApp ((stayP K).allL (s4 _ _ (s3 _ _ hacc)) ((stayP K).all (s3.trans s4) hp)) (.cons ((stayP K).lst (s4 _ _ (s3 _ _ hacc)) ⟨T2, rfl, SqT.of ?_⟩) .nil)
    rw [upd_same, List.length_map]
    rfl
  · obtain ⟨v2, v3, rfl⟩ := hsg
    rw [flat_map_sing, List.nil_append, lR] at hp
    have hp2 : Paired (IsP K H1) acc (lastKeys q) := hp
    obtain ⟨a, b, e1, e2⟩ := lastPlace_ok hne
    have hkn : lastKeys q ≠ [] := by
      intro e
      have := congrArg List.length e
      unfold lastKeys at this
      rw [List.length_map, List.length_range] at this
      exact hne (List.length_eq_zero_iff.mp this)
    refine ⟨_, rfl, D, acc, lastKeys q, rfl, SqL.of hacc, hp2, hkn, fun v hv => ?_⟩
    rw [e1] at hv
    obtain ⟨c, rfl, hC⟩ := hv
    exact ⟨c, _, _, _, rfl, rfl, hC, atI_nat (j := 2) rfl, qq _ (s2.same hD s1)⟩
abbrev s_pairs_back : Stmt := topS 27
abbrev n_pairs_back : List Str := ["p", "q", "out", "i", "mark", "x", "row", "k"]
theorem sc_pairs_back : FnScope n_pairs_back ["p", "q"] (defScope s_pairs_back) := ⟨rfl, rfl, rfl, by decide +kernel, rfl, by decide +kernel, by decide +kernel⟩
def Sm (M : List (List Int)) : Prop := M.length ≤ 1000 ∧ ∀ r ∈ M, r.length ≤ 1000
theorem goUp_sm : ∀ (k : Nat) (M : List (List Int)) (x : Int) (y : List (List Int) × Int), Sm M → goUp k M x = some y → Sm y.1
  | 0, M, x, y, h, e => by
    unfold goUp at e
    rw [← Option.some.inj e]
    exact h
  | k + 1, M, x, y, h, e => by
    unfold goUp at e
    simp only at e
    split at e
    · cases e
    · refine goUp_sm k _ _ y ⟨by rw [List.length_set]; exact h.1, fun r hr => ?_⟩ e
      rcases List.mem_or_eq_of_mem_set hr with q | q
      · exact h.2 r q
      · rw [q, List.length_set]
        by_cases hk : k < M.length
        · exact h.2 _ (getD_mem' [] hk)
        · have e : M.getD k [] = [] := by simp [List.getD, List.getElem?_eq_none (show M.length ≤ k by omega)]
          rw [e]
          exact Nat.zero_le _
theorem taken_sm {M : List (List Int)} {i : Nat} {y : List (List Int) × Int} (h : Sm M) (e : takenM M i = some y) : Sm y.1 := by
  unfold takenM at e
  split at e
  · cases e
  · split at e
    · cases e
    · rename_i out x hg
      rw [← Option.some.inj e]
      have h2 : Sm (M.set i (M.getD i []).dropLast) := ⟨by rw [List.length_set]; exact h.1, fun r hr => by
        rcases List.mem_or_eq_of_mem_set hr with q | q
        · exact h.2 r q
        · rw [q, List.length_dropLast]
          by_cases hk : i < M.length
          · have := h.2 _ (getD_mem' [] hk)
            omega
          · have e : M.getD i [] = [] := by simp [List.getD, List.getElem?_eq_none (show M.length ≤ i by omega)]
            rw [e]
            exact Nat.zero_le _⟩
      have h3 := goUp_sm _ _ _ _ h2 hg
      exact ⟨Nat.le_trans (List.length_filter_le _ _) h3.1, fun r hr => h3.2 r (List.mem_filter.mp hr).1⟩
def cutRow (q : List (List Int)) (i k : Nat) : List Int := if k ≠ i then q.getD k [] else (q.getD k []).dropLast
theorem cut_sm {q : List (List Int)} {i : Nat} (h : Sm q) : Sm ((List.range q.length).map (cutRow q i)) := ⟨by rw [List.length_map, List.length_range]; exact h.1, fun r hr => by
  obtain ⟨k, hk, rfl⟩ := List.mem_map.mp hr
  have hk' := List.mem_range.mp hk
  have := h.2 _ (getD_mem' [] hk')
  unfold cutRow
  split
  · exact this
  · rw [List.length_dropLast]
    omega⟩
theorem back_len : ∀ (f : Nat) (p q : List (List Int)) (r : List (Int × Int)), pairsBack f p q = some r → r.length ≤ f
  | 0, p, q, r, h => by
    unfold pairsBack at h
    split at h
    · rw [← Option.some.inj h]
      exact Nat.le_refl _
    · cases h
  | f + 1, p, q, r, h => by
    unfold pairsBack at h
    split at h
    · rw [← Option.some.inj h]
      exact Nat.zero_le _
    · simp only at h
      split at h
      · cases h
      · split at h
        · cases h
        · rename_i r' hr'
          rw [← Option.some.inj h, List.length_cons]
          exact Nat.succ_le_succ (back_len f _ _ r' hr')
def pr (y : Int × Int) : List Int := [y.1, y.2]
def spPairsBack (K : PySem.W.Frag) : Sp := fun vs H Q _ => ∃ (x y : V) (p q : List (List Int)) (f : Nat) (r : List (Int × Int)), vs = [x, y] ∧ IsF K H x p ∧ IsF K H y q ∧ Sm p ∧ Sm q ∧ (∀ r ∈ q, r ≠ []) ∧ f ≤ 1000 ∧ pairsBack f p q = some r ∧ ∀ v H', Same H H' → NewL (IsP K) H H' v (r.reverse.map pr) → Q v H'
theorem ok_pairs_back {k : Nat} (F : Dfn K mg "_pairs_back" s_pairs_back ["p", "q"] []) (c_last_place : Can P w K mg base k "_last_place" (spLastPlace K) []) (c_taken : Can P w K mg base k "taken" (spTaken K) []) (m_len : mg "len" = none) (m_enumerate : mg "enumerate" = none) (m_tuple : mg "tuple" = none) :
    Can P w K mg base (k + 1) "_pairs_back" (spPairsBack K) [] := by
  refine F.can sc_pairs_back (fun vs H Q E h => ?_) (fun f cdv A outer_ s H vs Q E hr h => ?_)
  · obtain ⟨x, y, p, q, f, r, rfl, _⟩ := h
    rfl
  obtain ⟨x, y, p, q, f, r, rfl, hp, hq, hsp, hsq, hrn, hf, hb, qq⟩ := h
  have hrl := back_len f p q r hb
  refine ⟨_, (pss_cons (ps_set (i := 2) sc_pairs_back.nd rfl (.inl rfl) (pe_lst pa_nil))
      (pss_cons (ps_while PassesOwn.never (pt_cmpR op_gt (pe_callB (lenK (K := K) rfl) (by rfl) m_len (by decide +kernel) (pa_cons (pv 1) pa_nil)) pe_int (nomark _))
      (pss_cons (ps_set (i := 3) sc_pairs_back.nd rfl (.inr rfl) (pe_can c_last_place hr (Nat.le_refl _) (by rfl) (pa_cons (pv 1) pa_nil)))
      (pss_cons (ps_set (i := 4) sc_pairs_back.nd rfl (.inl rfl) (pe_ix (ixT (K := K) rfl) (pe_ix (ixT (K := K) rfl) (pv 1) (pv 3) (fun _ _ => rfl)) (pe_op op_sub (pe_callB (lenK (K := K) rfl) (by rfl) m_len (by decide +kernel) (pa_cons (pe_ix (ixT (K := K) rfl) (pv 1) (pv 3) (fun _ _ => rfl)) pa_nil)) pe_int) (fun _ _ => rfl)))
      (pss_cons (ps_asg (pe_can c_taken hr (Nat.le_refl _) (by rfl) (pa_cons (pv 0) (pa_cons (pv 3) pa_nil))) (pgTK (K := K) rfl (by rfl) (pgs_cons (pg_name (i := 0) sc_pairs_back.nd rfl (.inl rfl)) (pgs_cons (pg_name (i := 5) sc_pairs_back.nd rfl (.inl rfl)) pgs_nil))))
      (pss_cons (ps_set (i := 1) sc_pairs_back.nd rfl (.inl rfl) (pe_callTy (tupleK (K := K) rfl) (by rfl) m_tuple (by decide +kernel) (pa_cons (pe_lc (own := [("k", 7), ("row", 6)]) (g := gTup K 2 (gCons (gName 7) (gCons (gName 6) gNil))) (tt := tYes) (by rfl) sc_pairs_back.nd (pi_enumT (by rfl) m_enumerate (pa_cons (pv 1) pa_nil)) (blkOk_by (own := [("k", 7), ("row", 6)]) (N := n_pairs_back) (sc := defScope s_pairs_back) (by decide +kernel)) (fun _ _ _ _ _ => (pgTK (K := K) rfl (by rfl) (pgs_cons (pg_name (i := 7) sc_pairs_back.nd rfl (.inl rfl)) (pgs_cons (pg_name (i := 6) sc_pairs_back.nd rfl (.inl rfl)) pgs_nil)))) (fun _ _ _ _ _ => pts_nil) (fun _ _ _ _ _ => (pe_ifExp (pt_cmpR op_ne (pv 7) (pv 3) (nomark _)) (pv 6) (pe_slice (slTK (K := K) rfl) (pv 6) po_none (po_some (pe_op op_sub (pe_callB (lenK (K := K) rfl) (by rfl) m_len (by decide +kernel) (pa_cons (pv 6) pa_nil)) pe_int)))))) pa_nil)))
      (pss_cons (ps_set (i := 1) sc_pairs_back.nd rfl (.inl rfl) (pe_callTy (tupleK (K := K) rfl) (by rfl) m_tuple (by decide +kernel) (pa_cons (pe_lc (own := [("row", 6)]) (g := gName 6) (by rfl) sc_pairs_back.nd (pi_tup (pv 1)) (blkOk_by (own := [("row", 6)]) (N := n_pairs_back) (sc := defScope s_pairs_back) (by decide +kernel)) (fun _ _ _ _ _ => (pg_name (i := 6) sc_pairs_back.nd rfl (.inl rfl))) (fun _ _ _ _ _ => (pts_one (pt_cmpR op_gt (pe_callB (lenK (K := K) rfl) (by rfl) m_len (by decide +kernel) (pa_cons (pv 6) pa_nil)) pe_int (nomark _)))) (fun _ _ _ _ _ => (pv 6))) pa_nil)))
      (pss_one (ps_expr (pe_bm PySem.F.plainAttrs_list PySem.F.slot_list_append PySem.F.type_list_append mt_append (pv 2) (pa_cons (pe_tup (pa_cons (pv 4) (pa_cons (pv 5) pa_nil))) pa_nil))))))))))
      (pss_one (ps_ret (pe_revL (pv 2)))))), ?_⟩
  refine ⟨by decide, fun o ho => ?_⟩
  have s1 := same_new ho (.lst [])
  refine ⟨fun m σ H' => ∃ (P' Q' : List (List Int)) (vp vq : V) (r' dn : List (Int × Int)) (acc : List V) (v3 v4 v5 v6 v7 : Option V), σ = [some vp, some vq, some (.ref o), v3, v4, v5, v6, v7] ∧ Same H H' ∧ IsF K H' vp P' ∧ IsF K H' vq Q' ∧ Sm P' ∧ Sm Q' ∧ (∀ r ∈ Q', r ≠ []) ∧ pairsBack m P' Q' = some r' ∧ H' o = some (.lst acc) ∧ Paired (IsP K H') acc (dn.map pr) ∧ dn ++ r' = r,
    ⟨f, p, q, x, y, r, [], [], none, none, none, none, none, rfl, s1, hp.same s1, hq.same s1, hsp, hsq, hrn, hb, upd_same, .nil, rfl⟩, fun m σ H1 hW => ?_⟩
  obtain ⟨P', Q', vp, vq, r', dn, acc, v3, v4, v5, v6, v7, rfl, s2, hP, hQ, hsP, hsQ, hQn, hbk, hacc, hpa, hdr⟩ := hW
  have hQ' := hQ
  obtain ⟨a, rws, rfl, hR, pR⟩ := hQ
  have lR := pLen pR
  refine ⟨_, rfl, a, _, rfl, .inr hR, _, _, rfl, rfl, _, rfl, ite2 (fun c => ?_) (fun c => ?_)⟩
  · have c1 := of_decide_eq_true c
    have hQ0 : Q' ≠ [] := by
      intro e
      rw [e] at lR
      rw [lR] at c1
      exact absurd c1 (by decide)
    cases m with
    | zero =>
      unfold pairsBack at hbk
      rw [if_neg hQ0] at hbk
      cases hbk
    | succ m =>
      obtain ⟨i, ei⟩ : ∃ i, i = lastPlace Q' := ⟨_, rfl⟩
      have hil : i < Q'.length := by
        obtain ⟨_, _, _, h⟩ := lastPlace_ok hQ0
        rw [ei]
        exact h
      unfold pairsBack at hbk
      rw [if_neg hQ0] at hbk
      simp only [← ei] at hbk
      split at hbk
      · cases hbk
      rename_i P2 x2 htk
      split at hbk
      · cases hbk
      rename_i r2 hb2
      have er' := Option.some.inj hbk
      obtain ⟨ri, eri⟩ : ∃ ri, ri = Q'.getD i [] := ⟨_, rfl⟩
      have hrin : ri ≠ [] := by
        rw [eri]
        exact hQn _ (getD_mem' [] hil)
      rw [← eri] at er'
      have hri0 : 0 < ri.length := List.length_pos_iff.mpr hrin
      obtain ⟨_, hai, b, rfl, hB⟩ := pAt' pR (getSome [] hil)
      rw [← eri] at hB
      refine ⟨fun σ' H' => ∃ (P' Q' : List (List Int)) (vp vq : V) (r' dn : List (Int × Int)) (acc : List V) (v3 v4 v5 v6 v7 : Option V), σ' = [some vp, some vq, some (.ref o), v3, v4, v5, v6, v7] ∧ Same H H' ∧ IsF K H' vp P' ∧ IsF K H' vq Q' ∧ Sm P' ∧ Sm Q' ∧ (∀ r ∈ Q', r ≠ []) ∧ pairsBack m P' Q' = some r' ∧ H' o = some (.lst acc) ∧ Paired (IsP K H') acc (dn.map pr) ∧ dn ++ r' = r, fun σ' H' h => ⟨m, Nat.lt_succ_self _, h⟩, ?_⟩
      refine ⟨_, rfl, .ref a, Q', rfl, hQ', hQ0, hsQ.1, hQn, fun H2 s3 => ?_⟩
      rw [← ei]
      have hR2 := sameT s3 hR
      have hB2 := sameT s3 hB
      have e1 : (((ri.map V.int).length : Nat) : Int) - 1 = ((ri.length - 1 : Nat) : Int) := by rw [List.length_map]; omega
      have e2 : atI (ri.map V.int) ((((ri.map V.int).length : Nat) : Int) - 1) = some (.int (ri.getD (ri.length - 1) 0)) := by
        rw [e1]
        exact atI_nat (getI (by omega))
      refine ⟨_, rfl, _, rfl, a, _, _, _, rfl, rfl, hR2, atI_nat hai, _, rfl, _, rfl, a, _, _, _, rfl, rfl, hR2, atI_nat hai, b, _, rfl, .inr hB2, _, _, rfl, rfl, b, _, _, _, rfl, rfl, hB2, e2, ?_⟩
      refine ⟨_, rfl, _, rfl, vp, P', i, (P2, x2), rfl, hP.same s3, hsP.1, hsP.2, htk, fun v H3 s4 hv => ?_⟩
      obtain ⟨t, u, rfl, hT, hU⟩ := hv
      refine ⟨t, _, rfl, hT, rfl, _, _, rfl, _, _, rfl, rfl, ?_⟩
      have s5 := s3.trans s4
      refine ⟨_, rfl, a, _, rfl, sameT s5 hR, fun D hD => ?_⟩
      refine lc_pure (walk_enumT (xs := rws)) (IsP K) (stayP K) (fun t => some (cutRow Q' i t)) hD (by rw [lR]; have := hsQ.1; omega) (fun H5 s6 => sameT (s5.trans s6) hR) (fun j x H5 H6 K1 K2 hj s6 hy k1 k2 => ?_) (fun H5 acc2 s6 hacc2 hp2 => ?_)
      · obtain ⟨T, xi, xr, rfl, hTn, rfl, exi, exr⟩ := hy
        obtain rfl := Option.some.inj exi
        have s7 := same_new hTn (.tup [.int (j : Nat), xr])
        have hTT : SqT K (upd H5 T (.tup [.int (j : Nat), xr])) T [.int (j : Nat), xr] := SqT.of upd_same
        generalize upd H5 T (.tup [.int (j : Nat), xr]) = H6 at s7 hTT
        obtain ⟨row, hrow, b2, rfl, hB3⟩ := pAt pR exr
        have hB4 := sameT ((s5.trans s6).trans s7) hB3
        refine ⟨T, _, rfl, hTT, rfl, _, _, rfl, _, _, rfl, rfl, rfl, tyes ⟨_, rfl, _, rfl, rfl, _, rfl, ite2 (fun c => ?_) (fun c => ?_)⟩⟩
        · have c2 : j ≠ i := fun e => by
            rw [e] at c
            simp at c
          refine ⟨_, rfl, k1 _ _ _ s7 rfl ⟨b2, rfl, ?_⟩⟩
          unfold cutRow
          rw [if_pos c2, getDs hrow]
          exact hB4
        · have c2 : j = i := by
            have c3 : ¬ (!decide (V.int ((j : Nat) : Int) = V.int ((i : Nat) : Int))) = true := c
            simp at c3
            omega
          have hrw : row = ri := by rw [eri, ← c2, getDs hrow]
          subst hrw
          have elen : HT.sIx (row.map V.int).length (row.map V.int).length (some ((((row.map V.int).length : Nat) : Int) - 1)) = row.length - 1 := by
            rw [e1, HT.sIx_nat, List.length_map]
            omega
          refine ⟨_, rfl, _, rfl, b2, _, rfl, .inr hB4, _, _, rfl, rfl, _, rfl, b2, _, rfl, hB4, fun hw => ?_, fun _ p2 hp2 => ?_⟩
          · rw [elen, List.length_map] at hw
            omega
          · refine k1 _ _ _ (s7.trans (same_new hp2 _)) rfl ⟨p2, rfl, SqT.of ?_⟩
            rw [upd_same]
            unfold cutV cutRow
            rw [if_neg (by rw [c2]; exact fun h => h rfl), HT.sIx_none, elen, c2, ← eri, List.dropLast_eq_take, List.map_take]
            rfl
      rw [fm_map, lR] at hp2
      refine ⟨D, _, rfl, .inl ⟨SqL.of hacc2, fun l hl' => ?_⟩⟩
      have s7 := s6.trans (same_new hl' (.tup acc2))
      have hp3 := (stayP K).all (same_new hl' (.tup acc2)) hp2
      have hL : SqT K (upd H5 l (.tup acc2)) l acc2 := SqT.of upd_same
      generalize upd H5 l (.tup acc2) = H6 at s7 hp3 hL
      refine ⟨_, rfl, l, rfl, ⟨_, hL⟩, fun D2 hD2 => ?_⟩
      refine lc_pure (walk_tup (xs := acc2)) (IsP K) (stayP K) (fun t => if 0 < (((List.range Q'.length).map (cutRow Q' i)).getD t []).length then some (((List.range Q'.length).map (cutRow Q' i)).getD t []) else none) hD2 (by rw [pLen hp3]; have := (cut_sm (i := i) hsQ).1; omega) (fun H7 s8 => sameT s8 hL) (fun j x H7 H8 K1 K2 hj s8 hy k1 k2 => ?_) (fun H7 acc3 s8 hacc3 hp4 => ?_)
      · obtain ⟨rfl, hx⟩ := hy
        obtain ⟨row, hrow, b2, rfl, hB3⟩ := pAt hp3 hx
        have hB4 := sameT s8 hB3
        rw [getDs hrow] at k1 k2
        refine ⟨rfl, _, rfl, b2, _, rfl, .inr hB4, _, _, rfl, rfl, _, rfl, ite2 (fun c => ?_) (fun c => ?_)⟩
        · have c1 := of_decide_eq_true c
          rw [List.length_map] at c1
          exact ⟨_, rfl, k1 _ _ _ (Same.refl _) (if_pos (by omega)) ⟨b2, rfl, hB4⟩⟩
        · have c1 := of_decide_eq_false (Bool.eq_false_iff.mpr c)
          rw [List.length_map] at c1
          exact k2 _ (Same.refl _) (if_neg (by omega))
      have ecut : ((List.range acc2.length).filterMap fun t => if 0 < (((List.range Q'.length).map (cutRow Q' i)).getD t []).length then some (((List.range Q'.length).map (cutRow Q' i)).getD t []) else none) = cutQ Q' i := by
        rw [pLen hp3]
        have f1 := fm_getD ((List.range Q'.length).map (cutRow Q' i)) [] (fun z => if 0 < z.length then some z else none)
        have f2 := fm_filter (fun z : List Int => decide (0 < z.length)) ((List.range Q'.length).map (cutRow Q' i))
        simp only [decide_eq_true_eq] at f2
        rw [f1, f2]
        rfl
      rw [ecut] at hp4
      refine ⟨D2, _, rfl, .inl ⟨SqL.of hacc3, fun l2 hl2 => ?_⟩⟩
      have s9 := s8.trans (same_new hl2 (.tup acc3))
      have hp5 := (stayP K).all (same_new hl2 (.tup acc3)) hp4
      have hL2 : SqT K (upd H7 l2 (.tup acc3)) l2 acc3 := SqT.of upd_same
      generalize upd H7 l2 (.tup acc3) = H8 at s9 hp5 hL2
      have s10 : Same H1 H8 := s5.trans (s7.trans s9)
      refine ⟨_, rfl, .inl ⟨rfl, _, SqL.of (s10 _ _ hacc)⟩, _, rfl, _, rfl, by show 2 ≤ sizeLine; decide, fun T2 hT2 => ?_⟩
      have s11 := same_new hT2 (.tup [.int (ri.getD (ri.length - 1) 0), .int x2])
      have hacl := pLen hpa
      rw [List.length_map] at hacl
      have hdl : dn.length ≤ 1000 := by
        have := congrArg List.length hdr
        rw [List.length_append] at this
        omega
      refine ⟨o, acc, _, rfl, rfl, s11 _ _ (s10 _ _ hacc), sz (by omega), ?_⟩
      have s12 : Same H1 (upd H8 T2 (.tup [.int (ri.getD (ri.length - 1) 0), .int x2])) := s10.trans s11
      have hoo := s12 _ _ hacc
      refine ⟨P2, cutQ Q' i, u, .ref l2, r2, dn ++ [(ri.getD (ri.length - 1) 0, x2)], acc ++ [.ref T2], _, _, _, _, _, rfl, same_upd_new ho (s2.trans s12), (stayF K).lst hoo (hU.same (s7.trans (s9.trans s11))), (stayF K).lst hoo ⟨l2, _, rfl, sameT s11 hL2, (stayP K).all s11 hp5⟩, taken_sm hsP htk, ?_, ?_, hb2, upd_same, ?_, ?_⟩
      · have := cut_sm (i := i) hsQ
        exact ⟨Nat.le_trans (List.length_filter_le _ _) this.1, fun r hr => this.2 r (List.mem_filter.mp hr).1⟩
      · intro r hr
        have := of_decide_eq_true (List.mem_filter.mp hr).2
        exact List.length_pos_iff.mp this
      · rw [List.map_append]
        exact pApp ((stayP K).allL hoo ((stayP K).all s12 hpa)) (.cons ((stayP K).lst hoo ⟨T2, rfl, SqT.of upd_same⟩) .nil)
      · rw [← hdr, ← er', List.append_assoc]
        rfl
  · have hQ0 : Q' = [] := by
      have c1 := of_decide_eq_false (Bool.eq_false_iff.mpr c)
      refine List.length_eq_zero_iff.mp ?_
      omega
    have er' : r' = [] := by
      cases m with
      | zero =>
        unfold pairsBack at hbk
        rw [if_pos hQ0] at hbk
        exact (Option.some.inj hbk).symm
      | succ m =>
        unfold pairsBack at hbk
        rw [if_pos hQ0] at hbk
        exact (Option.some.inj hbk).symm
    rw [er', List.append_nil] at hdr
    rw [hdr] at hpa
    refine ⟨_, rfl, o, acc, rfl, SqL.of hacc, fun l hl' => ?_⟩
    refine qq _ _ (s2.trans (same_new hl' _)) ⟨l, acc.reverse, rfl, s2.free hl', upd_same, ?_⟩
    have := pRev ((stayP K).all (same_new hl' (.lst acc.reverse)) hpa)
    rw [← List.map_reverse] at this
    exact this
end
end K19

namespace K19
open PySem PySem.Spec PyProof.Rows L2
theorem isPart_pos : ∀ (l : List Int) (b : Int), isPartitionM b l = true → ∀ p ∈ l, 1 ≤ p
  | [], _, _, p, h => absurd h List.not_mem_nil
  | x :: r, b, h, p, hp => by
    unfold isPartitionM at h
    rw [Bool.and_eq_true, Bool.and_eq_true, decide_eq_true_eq] at h
    rcases List.mem_cons.mp hp with e | e
    · rw [e]
      exact h.1.1
    · exact isPart_pos r x h.2 p e
theorem fits_of {rows : List (List Int)} {outer : List Int} (h : shapeFits rows outer = true) : Fits rows outer := by
  unfold shapeFits at h
  rw [Bool.and_eq_true, decide_eq_true_eq, List.all_eq_true] at h
  refine ⟨h.1, fun i hi => ?_⟩
  have h2 := h.2 i (List.mem_range.mpr hi)
  rw [Bool.and_eq_true, decide_eq_true_eq, List.all_eq_true] at h2
  exact ⟨by rw [h2.1]; omega, fun z hz => of_decide_eq_true (h2.2 z hz)⟩
theorem fill_of {rows : List (List Int)} {outer : List Int} (h : isFillingM rows outer = true) : FillOk rows outer := by
  unfold isFillingM at h
  rw [Bool.and_eq_true, List.all_eq_true] at h
  refine ⟨fits_of h.1, fun i hi t ht => ?_⟩
  have h2 := h.2 i (List.mem_range.mpr hi)
  rw [List.all_eq_true] at h2
  have h3 := h2 t (List.mem_range.mpr ht)
  rw [Bool.and_eq_true, Bool.not_eq_true', Bool.not_eq_true', Bool.and_eq_false_iff, decide_eq_false_iff_not, decide_eq_false_iff_not, decide_eq_false_iff_not] at h3
  refine ⟨fun h0 => ?_, by omega⟩
  rcases h3.1 with h4 | h4
  · exact absurd h0 h4
  · omega
theorem check_of {p q : List (List Int)} (h : checkPair p q = true) : CheckOk p q ∧ (∀ r ∈ q, r ≠ []) := by
  unfold checkPair at h
  simp only [Bool.and_eq_true] at h
  obtain ⟨⟨h1, h2⟩, h3⟩ := h
  have f3 := fill_of h3
  refine ⟨⟨h1, fill_of h2, f3⟩, fun r hr e => ?_⟩
  obtain ⟨i, hi, e2⟩ := List.getElem_of_mem hr
  have e3 : q.getD i [] = [] := by
    have : q.getD i [] = q[i] := by simp [List.getD, List.getElem?_eq_getElem hi]
    rw [this, e2, e]
  have g := (f3.1.2 i hi).1
  rw [e3] at g
  have hl := f3.1.1
  rw [List.length_map] at hl
  have g2 := isPart_pos _ _ h1 _ (List.mem_of_getElem? (getSome 0 (show i < (p.map fun r => (r.length : Int)).length by rw [List.length_map]; omega)))
  rw [← g] at g2
  exact absurd g2 (by decide)
section
variable {P : Program} {w : World} {K : PySem.W.Frag} {mg : Str → Option Value} {base : Heap}
abbrev s_matrix_of_pair : Stmt := topS 28
abbrev n_matrix_of_pair : List Str := ["p", "q", "height", "width", "rows", "mark", "x", "_", "row"]
theorem sc_matrix_of_pair : FnScope n_matrix_of_pair ["p", "q", "height", "width"] (defScope s_matrix_of_pair) := ⟨rfl, rfl, rfl, by decide +kernel, rfl, by decide +kernel, by decide +kernel⟩
def spMatrix (K : PySem.W.Frag) : Sp := fun vs H Q _ => ∃ (x y : V) (p q : List (List Int)) (h w : Nat) (m : List (List Int)), vs = [x, y, .int (h : Nat), .int (w : Nat)] ∧ IsF K H x p ∧ IsF K H y q ∧ Sm p ∧ Sm q ∧ h ≤ 1000 ∧ w ≤ 1000 ∧ matrixOf p q h w = some m ∧ ∀ r H', Same H H' → IsF K H' r m → Q r H'
theorem putM_len : ∀ (l : List (Int × Int)) (M : List (List Int)) (h w : Int) (m : List (List Int)), putM l M h w = some m → m.length = M.length
  | [], M, h, w, m, e => by
    unfold putM at e
    rw [Option.some.inj e]
  | (a, b) :: r, M, h, w, m, e => by
    unfold putM at e
    split at e
    · have := putM_len r _ h w m e
      rw [List.length_set] at this
      exact this
    · cases e
theorem LL.add {H0 H : Hp} {D : Addr} {as : List Addr} {M : List (List Int)} {H2 : Hp} {l : Addr} {r : List Int} (h : LL H0 H D as M) (s : Same H H2) (hl : H l = none) (hr : H2 l = some (.lst (r.map V.int))) : LL H0 (upd H2 D (.lst (as.map V.ref ++ [.ref l]))) D (as ++ [l]) (M ++ [r]) := by
  have n1 : l ∉ as := fun hm => by
    obtain ⟨j', hj'⟩ := List.getElem?_of_mem hm
    obtain ⟨_, _, e⟩ := pAt h.rows hj'
    rw [hl] at e
    cases e
  have n2 : D ≠ l := ne_of_none h.at_ hl
  refine ⟨same_upd_new h.o0 (h.same.trans s), ?_, ?_, ?_, h.o0, fun a ha => ?_, ?_⟩
  · rw [upd_same, List.map_append]
    rfl
  · refine List.nodup_append.mpr ⟨h.nd, List.pairwise_singleton _ _, fun a ha b hb e => ?_⟩
    rw [List.mem_singleton.mp hb] at e
    exact n1 (e ▸ ha)
  · intro hm
    rcases List.mem_append.mp hm with hm | hm
    · exact h.off hm
    · exact n2 (List.mem_singleton.mp hm)
  · rcases List.mem_append.mp ha with hm | hm
    · exact h.a0 a hm
    · rw [List.mem_singleton.mp hm]
      exact h.same.free hl
  · refine pApp (pAllAt h.rows fun j' b' m h1 _ h3 => ?_) (.cons ?_ .nil)
    · rw [upd_ne (fun e => h.off (by rw [← e]; exact List.mem_of_getElem? h1))]
      exact s _ _ h3
    · rw [upd_ne n2.symm]
      exact hr
theorem fm_const {α : Type} (x : α) : ∀ n, (List.range n).filterMap (fun _ => some x) = List.replicate n x
  | 0 => rfl
  | n + 1 => by
    rw [List.range_succ, List.filterMap_append, fm_const x n, List.replicate_succ']
    rfl
theorem blkOk_nf {N : List Str} {sc sc' scope : Scope} {own : List (Str × Nat)} (h : blkC N sc' scope own = true) (hf : ∀ y ∈ scope.names, y.2 ≠ .free) : BlkOk N sc scope own := by
  obtain ⟨h1, h2, h3, h4, h5⟩ := blkOk_by h
  exact ⟨h1, h2, h3, fun y hy e => absurd e (hf y hy), h5⟩
abbrev sc_m2 : Scope := { kind := ScopeKind.function, names := [(".0", .local), ("_", .local)], isGenerator := false, isCoroutine := false }
theorem ok_matrix_of_pair {k : Nat} (F : Dfn K mg "matrix_of_pair" s_matrix_of_pair ["p", "q", "height", "width"] []) (c_check_pair : Can P w K mg base k "_check_pair" (spCheckPair K) []) (c_pairs_back : Can P w K mg base k "_pairs_back" (spPairsBack K) []) (m_range : mg "range" = none) (m_tuple : mg "tuple" = none) :
    Can P w K mg base (k + 1) "matrix_of_pair" (spMatrix K) [] := by
  refine F.can sc_matrix_of_pair (fun vs H Q E h => ?_) (fun f cdv A outer_ s H vs Q E hr h => ?_)
  · obtain ⟨x, y, p, q, h, w, m, rfl, _⟩ := h
    rfl
  obtain ⟨x, y, p, q, h, wd, m, rfl, hp, hq, hsp, hsq, hh, hw, hm, qq⟩ := h
  unfold matrixOf at hm
  split at hm
  case isFalse => cases hm
  rename_i hck
  split at hm
  · cases hm
  rename_i r hbk
  obtain ⟨hok, hqn⟩ := check_of hck
  refine ⟨_, (pss_cons (ps_expr (pe_can c_check_pair hr (Nat.le_refl _) (by rfl) (pa_cons (pv 0) (pa_cons (pv 1) pa_nil))))
      (pss_cons (ps_setLc (i := 4) (own := [("_", 7)]) (g := gName 7) (tt := tYes) (by rfl) sc_matrix_of_pair.nd rfl rfl (sw_true rfl rfl rfl (by decide +kernel)) (pi_range1 (by rfl) m_range (pa_cons (pv 2) pa_nil)) (blkOk_by (own := [("_", 7)]) (N := n_matrix_of_pair) (sc := defScope s_matrix_of_pair) (by decide +kernel)) (fun _ _ _ _ _ => (pg_name (i := 7) sc_matrix_of_pair.nd rfl (.inl rfl))) (fun _ _ _ _ _ => pts_nil) (fun _ _ _ _ _ => (pe_lc (scope := sc_m2) (own := [("_", 7)]) (g := gName 7) (tt := tYes) (by rfl) sc_matrix_of_pair.nd (pi_range1 (by rfl) m_range (pa_cons (pv 3) pa_nil)) (blkOk_nf (sc' := sc_m2) (own := [("_", 7)]) (N := n_matrix_of_pair) (scope := sc_m2) (by decide +kernel) (by decide)) (fun _ _ _ _ _ => (pg_name (i := 7) sc_matrix_of_pair.nd rfl (.inl rfl))) (fun _ _ _ _ _ => pts_nil) (fun _ _ _ _ _ => pe_int))))
      (pss_cons (ps_for PassesOwn.never rfl (pi_list (pe_can c_pairs_back hr (Nat.le_refl _) (by rfl) (pa_cons (pv 0) (pa_cons (pv 1) pa_nil)))) (pgTK (K := K) rfl (by rfl) (pgs_cons (pg_name (i := 5) sc_matrix_of_pair.nd rfl (.inl rfl)) (pgs_cons (pg_name (i := 6) sc_matrix_of_pair.nd rfl (.inl rfl)) pgs_nil)))
      (pss_cons (ps_if (PW.pt (pw_or (pt_cmpR op_gt (pv 5) (pv 2) (nomark _)) (pw_or1 (pt_cmpR op_gt (pv 6) (pv 3) (nomark _))))) (pss_one ps_never) pss_nil)
      (pss_one (ps_asg (pe_op op_add (pe_ix (ixL (K := K) rfl) (pe_ix (ixL (K := K) rfl) (pv 4) (pe_op op_sub (pv 5) pe_int) (fun _ _ => rfl)) (pe_op op_sub (pv 6) pe_int) (fun _ _ => rfl)) pe_int) (pg_sub (pe_ix (ixL (K := K) rfl) (pv 4) (pe_op op_sub (pv 5) pe_int) (fun _ _ => rfl)) (pe_op op_sub (pv 6) pe_int) set_list)))))
      (pss_one (ps_ret (pe_callTy (tupleK (K := K) rfl) (by rfl) m_tuple (by decide +kernel) (pa_cons (pe_lc (own := [("row", 8)]) (g := gName 8) (tt := tYes) (by rfl) sc_matrix_of_pair.nd (pi_list (pv 4)) (blkOk_by (own := [("row", 8)]) (N := n_matrix_of_pair) (sc := defScope s_matrix_of_pair) (by decide +kernel)) (fun _ _ _ _ _ => (pg_name (i := 8) sc_matrix_of_pair.nd rfl (.inl rfl))) (fun _ _ _ _ _ => pts_nil) (fun _ _ _ _ _ => (pe_callTy (tupleK (K := K) rfl) (by rfl) m_tuple (by decide +kernel) (pa_cons (pv 8) pa_nil)))) pa_nil))))))), ?_⟩
  refine ⟨_, rfl, _, rfl, x, y, p, q, rfl, hp, hq, hsp.1, hok, fun H1 s1 => ?_⟩
  refine ⟨_, rfl, _, rfl, by omega, by omega, fun D hD => ?_⟩
  refine lc_it (walk_r0 (n := h)) (fun j H' => ∃ as, LL H1 H' D as (List.replicate j (List.replicate wd 0))) ⟨[], same_new hD _, upd_same, List.nodup_nil, List.not_mem_nil, hD, fun _ h => absurd h List.not_mem_nil, .nil⟩ (fun _ _ _ _ => trivial) (fun j x H2 H3 hj hp hy => ?_) (fun H2 hp => ?_)
  · obtain ⟨as, hL⟩ := hp
    obtain ⟨rfl, rfl⟩ := hy
    refine ⟨rfl, tyes ⟨_, rfl, _, rfl, by omega, by omega, fun D2 hD2 => ?_⟩⟩
    refine lc_pure (walk_r0 (n := wd)) IsI stayI (fun _ => some (0 : Int)) hD2 (by omega) (fun _ _ => trivial) (fun i x H4 H5 K1 K2 hi s1 y k1 k2 => ?_) (fun H4 acc s4 hacc hpa => ?_)
    · obtain ⟨rfl, rfl⟩ := y
      exact ⟨rfl, tyes (k1 _ _ _ (Same.refl _) rfl rfl)⟩
    · rw [fm_const] at hpa
      rw [pIntMap hpa] at hacc
      have hlen := pLen hL.rows
      rw [List.length_replicate] at hlen
      refine ⟨_, s4 _ _ hL.at_, by rw [List.length_map, hlen]; exact sz (by omega), as ++ [D2], ?_⟩
      have := hL.add s4 hD2 hacc
      rw [List.replicate_succ']
      exact this
  · obtain ⟨as, hL⟩ := hp
    refine ⟨_, rfl, _, rfl, x, y, p, q, 8, r, rfl, hp.same (s1.trans hL.same), hq.same (s1.trans hL.same), hsp, hsq, hqn, by omega, hbk, fun v H3 s3 hv => ?_⟩
    obtain ⟨l, vs, rfl, hl0, hl, hpv⟩ := hv
    have hL3 := hL.mono s3
    have hvl := pLen hpv
    rw [List.length_map] at hvl
    refine ⟨l, rfl, ⟨_, SqL.of hl⟩, ?_⟩
    refine for_it (walk_list (xs := vs)) (fun j σ H' => ∃ M v5 v6 v7 v8, σ = [some x, some y, some (.int (h : Nat)), some (.int (wd : Nat)), some (.ref D), v5, v6, v7, v8] ∧ LL H1 H' D as M ∧ M.length = h ∧ (∀ row ∈ M, row.length = wd) ∧ H' l = some (.lst vs) ∧ Paired (IsP K H') vs (r.reverse.map pr) ∧ putM (r.reverse.drop j) M h wd = some m) ⟨_, _, _, _, _, rfl, hL3, List.length_replicate, ?_, hl, hpv, hm⟩ (fun j σ H' _ hp => ?_) (fun j x' σ H4 H5 hj hp hy => ?_) (fun σ H4 hp => ?_)
    · intro row hrow
      rw [List.eq_of_mem_replicate hrow, List.length_replicate]
    · obtain ⟨M, v5, v6, v7, v8, rfl, hLL, hMl, hMr, hH, hPV, hput⟩ := hp
      exact SqL.of hH
    · obtain ⟨M, v5, v6, v7, v8, rfl, hLL, hMl, hMr, hH, hPV, hput⟩ := hp
      obtain ⟨rfl, hx⟩ := hy
      obtain ⟨pv, hpv1, hpv2⟩ := pAt hPV hx
      have hjr : j < r.reverse.length := by omega
      rw [List.getElem?_map] at hpv1
      obtain ⟨⟨mk, xx⟩, hr1, rfl⟩ : ∃ a, r.reverse[j]? = some a ∧ pr a = pv := by
        cases hc : r.reverse[j]? with
        | none => rw [hc] at hpv1; cases hpv1
        | some a => rw [hc] at hpv1; exact ⟨a, rfl, Option.some.inj hpv1⟩
      have hd : r.reverse.drop j = (mk, xx) :: r.reverse.drop (j + 1) := by
        rw [List.drop_eq_getElem_cons hjr]
        congr 1
        exact Option.some.inj ((List.getElem?_eq_getElem hjr).symm.trans hr1)
      rw [hd] at hput
      unfold putM at hput
      split at hput
      case isFalse => cases hput
      rename_i hcc
      rw [Bool.and_eq_true, Bool.and_eq_true, Bool.and_eq_true, decide_eq_true_eq, decide_eq_true_eq, decide_eq_true_eq, decide_eq_true_eq] at hcc
      obtain ⟨⟨⟨c1, c2⟩, c3⟩, c4⟩ := hcc
      obtain ⟨a, rfl⟩ : ∃ a : Nat, mk = (a : Int) + 1 := ⟨(mk - 1).toNat, by omega⟩
      obtain ⟨b, rfl⟩ : ∃ b : Nat, xx = (b : Int) + 1 := ⟨(xx - 1).toNat, by omega⟩
      have ea : ((a : Int) + 1 - 1).toNat = a := by omega
      have eb : ((b : Int) + 1 - 1).toNat = b := by omega
      rw [ea, eb] at hput
      have hal : a < M.length := by omega
      obtain ⟨row, erow⟩ : ∃ row, row = M.getD a [] := ⟨_, rfl⟩
      have hrl : row.length = wd := by
        rw [erow]
        exact hMr _ (getD_mem' [] hal)
      rw [← erow] at hput
      obtain ⟨ad, ha1, ha2, hA⟩ := hLL.get hal
      rw [← erow] at hA
      obtain ⟨c, rfl, hC⟩ := hpv2
      have eai : ((a : Int) + 1) - 1 = ((a : Nat) : Int) := by omega
      have ebi : ((b : Int) + 1) - 1 = ((b : Nat) : Int) := by omega
      have hbl : b < row.length := by omega
      have e1 : atI (as.map V.ref) (((a : Int) + 1) - 1) = some (.ref ad) := by
        rw [eai]
        exact atI_nat ha2
      have e2 : atI (row.map V.int) (((b : Int) + 1) - 1) = some (.int (row.getD b 0)) := by
        rw [ebi]
        exact atI_nat (getI hbl)
      have e3 : ixN (row.map V.int).length (((b : Int) + 1) - 1) = some b := by
        unfold ixN
        rw [List.length_map, ebi, if_pos (by omega), if_pos (by omega), Int.toNat_natCast]
      refine ⟨c, _, rfl, hC, rfl, _, _, rfl, _, _, rfl, rfl, ?_⟩
      refine ⟨_, rfl, _, rfl, _, _, rfl, rfl, _, rfl, ite2 (fun cc => ?_) (fun _ => ⟨_, rfl, _, rfl, _, _, rfl, rfl, _, rfl, ite2 (fun cc => ?_) (fun _ => ?_)⟩)⟩
      · have := of_decide_eq_true cc
        omega
      · have := of_decide_eq_true cc
        omega
      refine ⟨_, rfl, _, rfl, _, _, rfl, rfl, D, _, _, _, rfl, rfl, SqL.of hLL.at_, e1, _, rfl, _, _, rfl, rfl, ad, _, _, _, rfl, rfl, SqL.of hA, e2, _, _, rfl, rfl, ?_⟩
      refine ⟨_, rfl, _, rfl, _, _, rfl, rfl, D, _, _, _, rfl, rfl, SqL.of hLL.at_, e1, _, rfl, _, _, rfl, rfl, ad, _, _, _, rfl, rfl, hA, e3, ?_⟩
      have h6 := hLL.set (r := row.set b (row.getD b 0 + 1)) ha1
      rw [List.map_set] at h6
      have hal' := List.mem_of_getElem? ha1
      have hnl : l ≠ ad := fun e => by
        have := hL.same.trans s3
        subst e
        obtain ⟨j', hj'⟩ := List.getElem?_of_mem hal'
        obtain ⟨_, _, e⟩ := pAt hL.rows hj'
        rw [hl0] at e
        cases e
      refine ⟨M.set a (row.set b (row.getD b 0 + 1)), _, _, _, _, rfl, h6, by rw [List.length_set]; exact hMl, ?_, ?_, ?_, hput⟩
      · intro z hz
        rcases List.mem_or_eq_of_mem_set hz with hz | hz
        · exact hMr z hz
        · rw [hz, List.length_set]
          exact hrl
      · rw [upd_ne hnl]
        exact hH
      · exact (stayP K).allL hA hPV
    · obtain ⟨M, v5, v6, v7, v8, rfl, hLL, hMl, hMr, hH, hPV, hput⟩ := hp
      rw [List.drop_of_length_le (by omega)] at hput
      unfold putM at hput
      obtain rfl := Option.some.inj hput
      refine ⟨_, rfl, D, rfl, ⟨_, SqL.of hLL.at_⟩, fun D2 hD2 => ?_⟩
      refine lc_pure (walk_list (xs := as.map V.ref)) (IsP K) (stayP K) (fun j => some (M.getD j [])) hD2 (by rw [List.length_map, pLen hLL.rows, hMl]; omega) (fun H5 s5 => s5.seq (SqL.of hLL.at_)) (fun j x H5 H6 K1 K2 hj s5 hy k1 k2 => ?_) (fun H5 acc s5 hacc hpa => ?_)
      · obtain ⟨rfl, hx⟩ := hy
        rw [List.length_map, pLen hLL.rows] at hj
        obtain ⟨a3, ha3, hav3, hA3⟩ := hLL.get hj
        rw [hav3] at hx
        obtain rfl := Option.some.inj hx
        have hA3' := s5 _ _ hA3
        exact ⟨rfl, tyes ⟨_, rfl, a3, _, rfl, .inl ⟨SqL.of hA3', fun l hl' => k1 _ _ _ (same_new hl' _) rfl ⟨l, rfl, SqT.of upd_same⟩⟩⟩⟩
      · have e3 : ((List.range (as.map V.ref).length).filterMap fun j => some (M.getD j [])) = M := by
          rw [List.length_map, pLen hLL.rows]
          have e1 := fm_getD M [] (fun z => some z)
          rw [e1]
          simp
        rw [e3] at hpa
        refine ⟨D2, _, rfl, .inl ⟨SqL.of hacc, fun l2 hl2 => ?_⟩⟩
        have s6 := same_new hl2 (.tup acc)
        exact qq _ _ (s1.trans (hLL.same.trans (s5.trans s6))) ⟨l2, acc, rfl, SqT.of upd_same, (stayP K).all s6 hpa⟩
end
end K19

namespace K19
open PySem PySem.Spec PyProof.Rows L2
section
variable {P : Program} {w : World} {K : PySem.W.Frag} {mg : Str → Option Value} {base : Heap}
theorem flat_map_sing9 {α : Type} (f : Nat → α) : ∀ n, (List.range n).flatMap (fun i => [f i]) = (List.range n).map f
  | 0 => rfl
  | n + 1 => by rw [List.range_succ, List.flatMap_append, List.map_append, flat_map_sing9 f n]; rfl
abbrev s_filling_of : Stmt := topS 20
abbrev n_filling_of : List Str := ["chain", "outer", "rows", "i", "row", "k"]
theorem sc_filling_of : FnScope n_filling_of ["chain"] (defScope s_filling_of) := ⟨rfl, rfl, rfl, by decide +kernel, rfl, by decide +kernel, by decide +kernel⟩
def ChainOk (ch : List (List Int)) : Prop := ch ≠ [] ∧ ch.length ≤ 1000 ∧ (∀ c ∈ ch, c.length ≤ 1000 ∧ Bd2 c) ∧ ∀ i, i < (ch.getD (ch.length - 1) []).length → (fillRow ch i).length ≤ 1000
def spFillingOf (K : PySem.W.Frag) : Sp := fun vs H Q _ => ∃ (x : V) (ch : List (List Int)), vs = [x] ∧ IsF K H x ch ∧ ChainOk ch ∧ ∀ r H', Same H H' → IsF K H' r (fillingOf ch) → Q r H'
theorem rep_one (v : V) (n : Nat) : (List.replicate n [v]).flatten = List.replicate n v := by
  induction n with
  | zero => rfl
  | succ n ih => rw [List.replicate_succ, List.flatten_cons, ih, List.replicate_succ]; rfl
theorem ok_filling_of {k : Nat} (F : Dfn K mg "_filling_of" s_filling_of ["chain"] []) (c_part_at : Can P w K mg base k "part_at" (spPartAt K) []) (m_len : mg "len" = none) (m_range : mg "range" = none) (m_tuple : mg "tuple" = none) :
    Can P w K mg base (k + 1) "_filling_of" (spFillingOf K) [] := by
  refine F.can sc_filling_of (fun vs H Q E h => ?_) (fun f cdv A outer_ s H vs Q E hr h => ?_)
  · obtain ⟨x, ch, rfl, _⟩ := h
    rfl
  obtain ⟨x, ch, rfl, ⟨a, cvs, rfl, hR, pR⟩, ⟨hne, hl, hcb, hrw⟩, qq⟩ := h
  have lR := pLen pR
  have hpos : 0 < ch.length := List.length_pos_iff.mpr hne
  obtain ⟨outer, eo⟩ : ∃ outer, outer = ch.getD (ch.length - 1) [] := ⟨_, rfl⟩
  obtain ⟨_, hai, b, rfl, hB⟩ := pAt' pR (getSome [] (show ch.length - 1 < ch.length by omega))
  rw [← eo] at hB hrw
  have hol : outer.length ≤ 1000 := by
    rw [eo]
    exact (hcb _ (getD_mem' [] (show ch.length - 1 < ch.length by omega))).1
  have e2 : atI cvs (((cvs.length : Nat) : Int) - 1) = some (.ref b) := by
    rw [lR, show ((ch.length : Nat) : Int) - 1 = ((ch.length - 1 : Nat) : Int) by omega]
    exact atI_nat hai
  refine ⟨_, (pss_cons (ps_set (i := 1) sc_filling_of.nd rfl (.inl rfl) (pe_ix (ixT (K := K) rfl) (pv 0) (pe_op op_sub (pe_callB (lenK (K := K) rfl) (by rfl) m_len (by decide +kernel) (pa_cons (pv 0) pa_nil)) pe_int) (fun _ _ => rfl)))
      (pss_cons (ps_set (i := 2) sc_filling_of.nd rfl (.inl rfl) (pe_lst pa_nil))
      (pss_cons (ps_for PassesOwn.never rfl (pi_range1 (by rfl) m_range (pa_cons (pe_callB (lenK (K := K) rfl) (by rfl) m_len (by decide +kernel) (pa_cons (pv 1) pa_nil)) pa_nil)) (pg_name (i := 3) sc_filling_of.nd rfl (.inl rfl))
      (pss_cons (ps_set (i := 4) sc_filling_of.nd rfl (.inl rfl) (pe_lst pa_nil))
      (pss_cons (ps_for PassesOwn.never rfl (pi_range2 (by rfl) m_range (pa_cons pe_int (pa_cons (pe_callB (lenK (K := K) rfl) (by rfl) m_len (by decide +kernel) (pa_cons (pv 0) pa_nil)) pa_nil))) (pg_name (i := 5) sc_filling_of.nd rfl (.inl rfl))
      (pss_one (ps_set (i := 4) sc_filling_of.nd rfl (.inl rfl) (pe_op op_cat (pv 4) (pe_op op_rep (pe_lst (pa_cons (pv 5) pa_nil)) (pe_op op_sub (pe_can c_part_at hr (Nat.le_refl _) (by rfl) (pa_cons (pe_ix (ixT (K := K) rfl) (pv 0) (pv 5) (fun _ _ => rfl)) (pa_cons (pv 3) pa_nil))) (pe_can c_part_at hr (Nat.le_refl _) (by rfl) (pa_cons (pe_ix (ixT (K := K) rfl) (pv 0) (pe_op op_sub (pv 5) pe_int) (fun _ _ => rfl)) (pa_cons (pv 3) pa_nil)))))))))
      (pss_one (ps_expr (pe_bm PySem.F.plainAttrs_list PySem.F.slot_list_append PySem.F.type_list_append mt_append (pv 2) (pa_cons (pe_callTy (tupleK (K := K) rfl) (by rfl) m_tuple (by decide +kernel) (pa_cons (pv 4) pa_nil)) pa_nil)))))))
      (pss_one (ps_ret (pe_callTy (tupleK (K := K) rfl) (by rfl) m_tuple (by decide +kernel) (pa_cons (pv 2) pa_nil))))))), ?_⟩
  refine ⟨_, rfl, _, rfl, a, _, rfl, .inr hR, _, _, rfl, rfl, a, _, _, _, rfl, rfl, hR, e2, ?_⟩
  refine ⟨by decide, fun D hD => ?_⟩
  have s1 := same_new hD (.lst [])
  have hlm : (outer.map V.int).length = outer.length := List.length_map _
  refine ⟨_, rfl, b, _, rfl, .inr (sameT s1 hB), _, rfl, by rw [hlm]; omega, by rw [hlm]; omega, ?_⟩
  rw [hlm]
  refine for_acc (walk_r0 (n := outer.length)) (R := IsP K) (D := D) (fun σ => ∃ v3 v4 v5, σ = [some (.ref a), some (.ref b), some (.ref D), v3, v4, v5]) [] (fun i : Nat => [fillRow ch i]) ⟨_, _, _, rfl⟩ upd_same .nil (fun _ _ => trivial) (fun i x σ H1 H2 acc N hi hsg s2 hy hacc hp kk => ?_) (fun σ H1 acc hsg s2 hacc hp => ?_)
  · obtain ⟨v3, v4, v5, rfl⟩ := hsg
    obtain ⟨rfl, rfl⟩ := hy
    have s3 : Same H H2 := s2.same hD s1
    have hil := hrw i hi
    have hacl := pLen hp
    rw [List.nil_append, flat_sing_len] at hacl
    refine ⟨by decide, fun l0 hl0 => ?_⟩
    have s4 := same_new hl0 (.lst [])
    refine ⟨_, rfl, a, _, rfl, .inr (sameT (s3.trans s4) hR), 1, _, rfl, ⟨by decide, by decide, by omega, by omega⟩, ?_⟩
    have en : (((cvs.length : Nat) : Int) - 1).toNat = ch.length - 1 := by omega
    rw [en]
    refine for_it walk_range (fun t σ H' => Same H2 H' ∧ ∃ l v5, σ = [some (.ref a), some (.ref b), some (.ref D), some (.int (i : Nat)), some (.ref l), v5] ∧ H' l = some (.lst (((List.range t).flatMap fun k => List.replicate ((partAt (ch.getD (k + 1) []) i - partAt (ch.getD k []) i).toNat) ((k : Int) + 1)).map V.int))) ⟨s4, l0, _, rfl, upd_same⟩ (fun _ _ _ _ _ => trivial) (fun t x σ H3 H4 ht hp' hy => ?_) (fun σ H3 hp' => ?_)
    · obtain ⟨s5, l, v5, rfl, hll⟩ := hp'
      obtain ⟨rfl, rfl⟩ := hy
      have s6 := s3.trans s5
      obtain ⟨_, g1, c1, rfl, hC1⟩ := pAt' pR (getSome [] (show t + 1 < ch.length by omega))
      obtain ⟨_, g0, c0, rfl, hC0⟩ := pAt' pR (getSome [] (show t < ch.length by omega))
      have b1 := partAt_bd (hcb _ (getD_mem' [] (show t + 1 < ch.length by omega))).2 i
      have b0 := partAt_bd (hcb _ (getD_mem' [] (show t < ch.length by omega))).2 i
      have hfl := flat_at (ch.length - 1) (fun k => List.replicate ((partAt (ch.getD (k + 1) []) i - partAt (ch.getD k []) i).toNat) ((k : Int) + 1)) t ht
      have hil' : ((List.range (ch.length - 1)).flatMap fun k => List.replicate ((partAt (ch.getD (k + 1) []) i - partAt (ch.getD k []) i).toNat) ((k : Int) + 1)).length ≤ 1000 := hil
      rw [List.length_replicate] at hfl
      have e1 : atI cvs (1 + (t : Int)) = some (.ref c1) := by
        rw [show 1 + (t : Int) = ((t + 1 : Nat) : Int) by omega]
        exact atI_nat g1
      have e0 : atI cvs (1 + (t : Int) - 1) = some (.ref c0) := by
        rw [show 1 + (t : Int) - 1 = ((t : Nat) : Int) by omega]
        exact atI_nat g0
      refine ⟨_, rfl, _, rfl, by show 1 ≤ sizeLine; decide, fun l1 hl1 => ?_⟩
      have s7 := same_new hl1 (.lst [V.int (1 + (t : Int))])
      have hR' := sameT (s6.trans s7) hR
      refine ⟨_, rfl, _, rfl, a, _, _, _, rfl, rfl, hR', e1, _, rfl, .ref c1, _, i, rfl, ⟨c1, rfl, sameT (s6.trans s7) hC1⟩, ?_⟩
      refine ⟨_, rfl, _, rfl, _, _, rfl, rfl, a, _, _, _, rfl, rfl, hR', e0, _, rfl, .ref c0, _, i, rfl, ⟨c0, rfl, sameT (s6.trans s7) hC0⟩, ?_⟩
      refine ⟨_, _, rfl, rfl, l1, _, _, rfl, rfl, upd_same, by omega, by omega, ?_, fun l2 hl2 => ?_⟩
      · rw [List.length_singleton, Nat.one_mul]
        exact sz' (by omega)
      have s8 := s7.trans (same_new hl2 (.lst (List.replicate (partAt (ch.getD (t + 1) []) i - partAt (ch.getD t []) i).toNat [V.int (1 + (t : Int))]).flatten))
      refine ⟨l, l2, _, _, rfl, rfl, s8 _ _ hll, upd_same, ?_, fun l3 hl3 => ?_⟩
      · rw [rep_one, List.length_map, List.length_replicate]
        exact sz' (by omega)
      refine ⟨s5.trans (s8.trans (same_new hl3 _)), l3, _, rfl, ?_⟩
      rw [upd_same, rep_one, List.range_succ, List.flatMap_append, List.map_append]
      have ee : (fun i : Nat => V.int (1 + (i : Int))) t = V.int ((t : Int) + 1) := by
        show V.int _ = _
        rw [Int.add_comm]
      rw [ee]
      simp
    · obtain ⟨s5, l, v5, rfl, hll⟩ := hp'
      have hacc' := s5 _ _ hacc
      refine ⟨_, rfl, .inl ⟨rfl, _, SqL.of hacc'⟩, _, rfl, l, _, rfl, .inl ⟨SqL.of hll, fun t1 ht1 => ?_⟩⟩
      have s6 := same_new ht1 (.tup (((List.range (ch.length - 1)).flatMap fun k => List.replicate ((partAt (ch.getD (k + 1) []) i - partAt (ch.getD k []) i).toNat) ((k : Int) + 1)).map V.int))
      have hacc2 := s6 _ _ hacc'
      refine ⟨D, acc, _, rfl, rfl, hacc2, sz (by omega), ?_⟩
      refine kk _ _ _ ⟨_, _, _, rfl⟩ (SamB.of (s5.trans s6)).upd upd_same ?_
      exact pApp ((stayP K).allL hacc2 ((stayP K).all (s5.trans s6) hp)) (.cons ((stayP K).lst hacc2 ⟨t1, rfl, SqT.of upd_same⟩) .nil)
  · obtain ⟨v3, v4, v5, rfl⟩ := hsg
    rw [flat_map_sing9, List.nil_append] at hp
    have s3 : Same H H1 := s2.same hD s1
    refine ⟨_, rfl, D, acc, rfl, .inl ⟨SqL.of hacc, fun l hl' => ?_⟩⟩
    have s4 := same_new hl' (.tup acc)
    refine qq _ _ (s3.trans s4) ⟨l, acc, rfl, SqT.of upd_same, ?_⟩
    have := (stayP K).all s4 hp
    rw [eo] at this
    exact this
end
end K19

namespace K19
open PySem PySem.Spec PyProof.Rows L2
theorem flat_gd {α β : Type} (a : List α) (d : α) (g : α → List β) : (List.range a.length).flatMap (fun i => g (a.getD i d)) = a.flatMap g := by
  rw [← flatMap_map' (fun i => a.getD i d) g, range_getD]
theorem flat_filter {α β : Type} (p : α → Bool) (f : α → β) : ∀ a : List α, a.flatMap (fun x => if p x = true then [f x] else []) = (a.filter p).map f
  | [] => rfl
  | x :: r => by
    rw [List.flatMap_cons, flat_filter p f r, List.filter_cons]
    cases p x <;> rfl
theorem fm_fil_map {α β : Type} (p : α → Bool) (f : α → β) : ∀ a : List α, a.filterMap (fun x => if p x = true then some (f x) else none) = (a.filter p).map f
  | [] => rfl
  | x :: r => by
    rw [List.filterMap_cons, List.filter_cons, fm_fil_map p f r]
    cases p x <;> rfl
theorem layP : ∀ ns : List Int, PyData.canLayAll0 (ns.map PyData.int) = true
  | [] => rfl
  | n :: r => by
    rw [List.map_cons]
    unfold PyData.canLayAll0 PyData.canLay0
    rw [layP r]
    rfl
theorem shapedP (a : List Int) : SeqAt.shaped (encP a) = true := by
  unfold SeqAt.shaped
  rw [Bool.and_eq_true, decide_eq_true_eq]
  refine ⟨?_, Nat.le_trans (depthP a) (by decide)⟩
  unfold encP PyData.canLay0
  exact layP a
def okW (a : List Int) (k : Int) : Bool := decide (a.length ≤ 10) && a.all (fun z => decide (-1000 ≤ z) && decide (z ≤ 1000)) && decide (-1000 ≤ k) && decide (k ≤ 1000) && decide ((mrows (lowsOf a) a (a.sum - k)).length ≤ 100000)
theorem bd_of {a : List Int} (h : a.all (fun z => decide (-1000 ≤ z) && decide (z ≤ 1000)) = true) : Bd2 a := fun z hz => by
  have := List.all_eq_true.mp h z hz
  rw [Bool.and_eq_true, decide_eq_true_eq, decide_eq_true_eq] at this
  exact this
theorem okW_of {a : List Int} {k : Int} (h : okW a k = true) : a.length ≤ 10 ∧ Bd2 a ∧ -1000 ≤ k ∧ k ≤ 1000 ∧ (mrows (lowsOf a) a (a.sum - k)).length ≤ 100000 := by
  unfold okW at h
  rw [Bool.and_eq_true, Bool.and_eq_true, Bool.and_eq_true, Bool.and_eq_true, decide_eq_true_eq, decide_eq_true_eq, decide_eq_true_eq, decide_eq_true_eq] at h
  obtain ⟨⟨⟨⟨h1, h2⟩, h3⟩, h4⟩, h5⟩ := h
  exact ⟨h1, bd_of h2, h3, h4, h5⟩
def chainB (ch : List (List Int)) : Bool := decide (ch.length ≤ 1000) && ch.all (fun c => decide (c.length ≤ 1000) && c.all (fun z => decide (-1000 ≤ z) && decide (z ≤ 1000))) && (List.range (ch.getD (ch.length - 1) []).length).all (fun i => decide ((fillRow ch i).length ≤ 1000))
theorem chainB_of {ch : List (List Int)} (hn : ch ≠ []) (h : chainB ch = true) : ChainOk ch := by
  unfold chainB at h
  rw [Bool.and_eq_true, Bool.and_eq_true, decide_eq_true_eq, List.all_eq_true, List.all_eq_true] at h
  obtain ⟨⟨h1, h2⟩, h3⟩ := h
  refine ⟨hn, h1, fun c hc => ?_, fun i hi => of_decide_eq_true (h3 i (List.mem_range.mpr hi))⟩
  have := h2 c hc
  rw [Bool.and_eq_true, decide_eq_true_eq] at this
  exact ⟨this.1, bd_of this.2⟩
def lastOf (chs : List (List (List Int))) : List (List (List Int)) := (chs.filter fun chain => decide (chain.getD 0 [] = [])).map fillingOf
def stepsOk : List Int → List (List (List Int)) → Bool
  | [], chs => decide (chs.length ≤ 100000) && chs.all (fun ch => decide (ch ≠ []) && (decide (ch.getD 0 [] ≠ []) || chainB ch)) && (decide ((lastOf chs).length < 2) || (lastOf chs).all fun f => decide (f ≠ []))
  | k :: ks, chs => chs.all (fun ch => decide (ch ≠ []) && decide (ch.length ≤ 900) && okW (ch.getD 0 []) k) && decide ((chainStep chs k).length ≤ 100000) && stepsOk ks (chainStep chs k)
theorem fillings_eq (outer content : List Int) : fillingsM outer content = isort le2 (lastOf (content.reverse.foldl chainStep [[outer]])) := rfl
section
variable {P : Program} {w : World} {K : PySem.W.Frag} {mg : Str → Option Value} {base : Heap}
abbrev s_fillings : Stmt := topS 21
abbrev n_fillings : List Str := ["outer", "content", "inner", "chains", "k", "longer", "chain", "b"]
theorem sc_fillings : FnScope n_fillings ["outer", "content", "inner"] (defScope s_fillings) := ⟨rfl, rfl, rfl, by decide +kernel, rfl, by decide +kernel, by decide +kernel⟩
def spFillings (K : PySem.W.Frag) : Sp := fun vs H Q _ => ∃ (x y z : V) (outer content : List Int), vs = [x, y, z] ∧ IsP K H x outer ∧ IsP K H y content ∧ IsP K H z [] ∧ content.length ≤ 1000 ∧ stepsOk content.reverse [[outer]] = true ∧ ∀ r H', Same H H' → IsT (IsF K) K H' r (fillingsM outer content) → Q r H'
theorem ok_fillings {k : Nat} {z0 : V} (F : Dfn K mg "fillings" s_fillings ["outer", "content", "inner"] [z0]) (c_without_strip : Can P w K mg base k "without_strip" (spWithout K) [.bl false]) (c_holds : Can P w K mg base k "holds" (spHolds K) []) (c_filling_of : Can P w K mg base k "_filling_of" (spFillingOf K) [])
    (m_reversed : mg "reversed" = none) (m_list : mg "list" = none) (m_tuple : mg "tuple" = none) (m_sorted : mg "sorted" = none) :
    Can P w K mg base (k + 1) "fillings" (spFillings K) [z0] := by
  refine F.can sc_fillings (fun vs H Q E h => ?_) (fun f cdv A outer_ s H vs Q E hr h => ?_)
  · obtain ⟨x, y, z, outer, content, rfl, _⟩ := h
    rfl
  obtain ⟨x, y, z, outer, content, rfl, hX, ⟨c, rfl, hC⟩, hZ, hl, hst, qq⟩ := h
  rw [fillings_eq] at qq
  have hlm : (content.map V.int).length = content.length := List.length_map _
  refine ⟨_, (pss_cons (ps_set (i := 3) sc_fillings.nd rfl (.inl rfl) (pe_lst (pa_cons (pe_tup (pa_cons (pv 0) pa_nil)) pa_nil)))
      (pss_cons (ps_for PassesOwn.never rfl (pi_reversed (by rfl) m_reversed (pa_cons (pe_callTy (listK (K := K) rfl) (by rfl) m_list (by decide +kernel) (pa_cons (pv 1) pa_nil)) pa_nil)) (pg_name (i := 4) sc_fillings.nd rfl (.inl rfl))
      (pss_cons (ps_set (i := 5) sc_fillings.nd rfl (.inl rfl) (pe_lst pa_nil))
      (pss_cons (ps_for PassesOwn.never rfl (pi_list (pv 3)) (pg_name (i := 6) sc_fillings.nd rfl (.inl rfl))
      (pss_one (ps_for PassesOwn.never rfl (pi_tup (pe_can c_without_strip hr (Nat.le_refl _) (by rfl) (pa_cons (pe_ix (ixT (K := K) rfl) (pv 6) pe_int (fun _ _ => rfl)) (pa_cons (pv 4) pa_nil)))) (pg_name (i := 7) sc_fillings.nd rfl (.inl rfl))
      (pss_one (ps_if (pt_val (pe_can c_holds hr (Nat.le_refl _) (by rfl) (pa_cons (pv 7) (pa_cons (pv 2) pa_nil)))) (pss_one (ps_expr (pe_bm PySem.F.plainAttrs_list PySem.F.slot_list_append PySem.F.type_list_append mt_append (pv 5) (pa_cons (pe_op op_catT (pe_tup (pa_cons (pv 7) pa_nil)) (pv 6)) pa_nil)))) pss_nil)))))
      (pss_one (ps_set (i := 3) sc_fillings.nd rfl (.inl rfl) (pe_callTy (listK (K := K) rfl) (by rfl) m_list (by decide +kernel) (pa_cons (pv 5) pa_nil)))))))
      (pss_one (ps_ret (pe_callTy (tupleK (K := K) rfl) (by rfl) m_tuple (by decide +kernel) (pa_cons (pe_callB (cr_sortD ordF (R := IsF K) (fun _ _ _ h => h.dp) hr.units) (by rfl) m_sorted (by decide +kernel) (pa_cons (pe_lc (own := [("chain", 6)]) (g := gName 6) (by rfl) sc_fillings.nd (pi_list (pv 3)) (blkOk_by (own := [("chain", 6)]) (N := n_fillings) (sc := defScope s_fillings) (by decide +kernel)) (fun _ _ _ _ _ => (pg_name (i := 6) sc_fillings.nd rfl (.inl rfl))) (fun _ _ _ _ _ => (pts_one (pt_cmpR (eqDK (K := K) rfl hr.units) (pe_ix (ixT (K := K) rfl) (pv 6) pe_int (fun _ _ => rfl)) (pv 2) (nomark _)))) (fun _ _ _ _ _ => (pe_can c_filling_of hr (Nat.le_refl _) (by rfl) (pa_cons (pv 6) pa_nil)))) pa_nil)) pa_nil)))))), ?_⟩
  refine ⟨_, rfl, by show 1 ≤ sizeLine; decide, fun a1 ha1 => ⟨by show 1 ≤ sizeLine; decide, fun l1 hl1 => ?_⟩⟩
  have s1 := same_new ha1 (.tup [x])
  have s2 := same_new hl1 (.lst [V.ref a1])
  have hc1 : IsF K (upd (upd H a1 (.tup [x])) l1 (.lst [V.ref a1])) (.ref a1) [outer] := ⟨a1, [x], rfl, sameT s2 (SqT.of upd_same), .cons (hX.same (s1.trans s2)) .nil⟩
  have hl1' : upd (upd H a1 (.tup [x])) l1 (.lst [V.ref a1]) l1 = some (.lst [V.ref a1]) := upd_same
  replace s2 := s1.trans s2
  generalize upd (upd H a1 (.tup [x])) l1 (.lst [V.ref a1]) = H1 at s2 hc1 hl1'
  refine ⟨_, rfl, c, _, rfl, .inr (sameT s2 hC), fun l hl' => ⟨l, _, rfl, SqL.of upd_same, ?_⟩⟩
  have s3 := same_new hl' (.lst (content.map V.int))
  have hL : upd H1 l (.lst (content.map V.int)) l = some (.lst (content.map V.int)) := upd_same
  replace s2 := s2.trans s3
  replace hc1 := hc1.same s3
  replace hl1' := s3 _ _ hl1'
  clear s3
  generalize upd H1 l (.lst (content.map V.int)) = H2 at s2 hc1 hl1' hL
  rw [hlm]
  have wr := walk_rev (K := K) (a := l) (xs := content.map V.int)
  rw [hlm] at wr
  refine for_it wr (fun i σ H' => Same H2 H' ∧ ∃ lc vs chs v4 v5 v6 v7, σ = [some x, some (.ref c), some z, some (.ref lc), v4, v5, v6, v7] ∧ H' lc = some (.lst vs) ∧ Paired (IsF K H') vs chs ∧ stepsOk (content.reverse.drop i) chs = true ∧ (content.reverse.drop i).foldl chainStep chs = content.reverse.foldl chainStep [[outer]]) ⟨.refl _, l1, [.ref a1], [[outer]], none, none, none, none, rfl, hl1', .cons hc1 .nil, hst, rfl⟩ (fun i σ H' _ hp => hp.1.seq (SqL.of hL)) (fun i x' σ H3 H4 hi hp hy => ?_) (fun σ H3 hp => ?_)
  · obtain ⟨s3, lc, vs, chs, v4, v5, v6, v7, rfl, hlc, hpc, hst, hfin⟩ := hp
    obtain ⟨rfl, hx⟩ := hy
    have hir : i < content.reverse.length := by rw [List.length_reverse]; exact hi
    have lR := pLen hpc
    obtain ⟨kk, hkk⟩ : ∃ kk, content.reverse[i]? = some kk := ⟨_, List.getElem?_eq_getElem hir⟩
    rw [List.getElem?_map, ← List.getElem?_reverse hi, hkk] at hx
    obtain rfl := Option.some.inj hx
    have hd : content.reverse.drop i = kk :: content.reverse.drop (i + 1) := by
      rw [List.drop_eq_getElem_cons hir]
      congr 1
      exact Option.some.inj ((List.getElem?_eq_getElem hir).symm.trans hkk)
    rw [hd] at hst hfin
    unfold stepsOk at hst
    rw [Bool.and_eq_true, Bool.and_eq_true, decide_eq_true_eq, List.all_eq_true] at hst
    obtain ⟨⟨hok, hsz⟩, hst⟩ := hst
    rw [List.foldl_cons] at hfin
    have ech : (List.range chs.length).flatMap (fun i => (fun chain => ((withoutStrip (chain.getD 0 []) kk).filter fun b => holds b []).map fun b => b :: chain) (chs.getD i [])) = chainStep chs kk := flat_gd chs [] (fun chain => ((withoutStrip (chain.getD 0 []) kk).filter fun b => holds b []).map fun b => b :: chain)
    refine ⟨by decide, fun D hD => ?_⟩
    have s4 := same_new hD (.lst [])
    have nlc : lc ≠ D := ne_of_none hlc hD
    refine ⟨_, rfl, lc, rfl, ⟨_, SqL.of (s4 _ _ hlc)⟩, ?_⟩
    refine for_acc (walk_list (xs := vs)) (R := IsF K) (D := D) (fun σ => ∃ v6 v7, σ = [some x, some (.ref c), some z, some (.ref lc), some (.int kk), some (.ref D), v6, v7]) [] (fun i => (fun chain => ((withoutStrip (chain.getD 0 []) kk).filter fun b => holds b []).map fun b => b :: chain) (chs.getD i [])) ⟨_, _, rfl⟩ upd_same .nil (fun H' s => s.seqL nlc (SqL.of (s4 _ _ hlc))) (fun j x' σ H5 H6 acc N hj hsg s5 hy hacc hp kk1 => ?_) (fun σ H5 acc hsg s5 hacc hp => ?_)
    · obtain ⟨v6, v7, rfl⟩ := hsg
      obtain ⟨rfl, hx⟩ := hy
      have s6 := s5.same hD s4
      obtain ⟨ch, hch, hchv⟩ := pAt hpc hx
      have hchv' := (stayF K).same s6 hchv
      obtain ⟨ca, cvs, rfl, hCT, hCP⟩ := hchv'
      have hokc := hok ch (List.mem_of_getElem? hch)
      rw [Bool.and_eq_true, Bool.and_eq_true, decide_eq_true_eq, decide_eq_true_eq] at hokc
      obtain ⟨⟨hcn, hcl⟩, hcw⟩ := hokc
      obtain ⟨w1, w2, w3, w4, w5⟩ := okW_of hcw
      have hc0 : 0 < ch.length := List.length_pos_iff.mpr hcn
      obtain ⟨_, g0, hv0, h0, hB0⟩ := pAt' hCP (getSome [] hc0)
      subst h0
      have hz1 := flat_at _ (fun i => (fun chain => ((withoutStrip (chain.getD 0 []) kk).filter fun b => holds b []).map fun b => b :: chain) (chs.getD i [])) j (show j < chs.length by omega)
      rw [ech] at hz1
      rw [getDs hch] at hz1 kk1
      have hacl := pLen hp
      rw [List.nil_append] at hacl
      obtain ⟨ws, ews⟩ : ∃ ws, ws = withoutStrip (ch.getD 0 []) kk := ⟨_, rfl⟩
      have eflat : (List.range ws.length).flatMap (fun t => (fun b => if holds b [] = true then [b :: ch] else []) (ws.getD t [])) = (ws.filter fun b => holds b []).map fun b => b :: ch := by
        rw [flat_gd ws [] (fun b => if holds b [] = true then [b :: ch] else []), flat_filter (fun b => holds b []) (fun b => b :: ch)]
      simp only [← ews, ← eflat] at hz1 kk1
      refine ⟨_, rfl, ca, _, _, _, rfl, rfl, hCT, atI_nat (j := 0) g0, _, rfl, .ref hv0, ch.getD 0 [], kk, rfl, ⟨hv0, rfl, hB0⟩, w1, w2, w3, w4, w5, fun r H7 s7 hr7 => ?_⟩
      rw [← ews] at hr7
      obtain ⟨ta, tvs, rfl, hT, pT⟩ := hr7
      have lT := pLen pT
      refine ⟨ta, rfl, ⟨_, hT⟩, ?_⟩
      refine for_acc (walk_tup (xs := tvs)) (R := IsF K) (D := D) (fun σ => ∃ v7, σ = [some x, some (.ref c), some z, some (.ref lc), some (.int kk), some (.ref D), some (.ref ca), v7]) _ (fun t => (fun b => if holds b [] = true then [b :: ch] else []) (ws.getD t [])) ⟨_, rfl⟩ (s7 _ _ hacc) ((stayF K).all s7 hp) (fun H' s => s.seqT (s7 _ _ hacc) hT) (fun t x' σ H8 H9 acc2 N2 ht hsg s8 hy hacc2 hp2 kk2 => ?_) (fun σ H8 acc2 hsg s8 hacc2 hp2 => ?_)
      · obtain ⟨v7, rfl⟩ := hsg
        obtain ⟨rfl, hx⟩ := hy
        obtain ⟨b, hb, hbv⟩ := pAt pT hx
        have hbv' := (stayP K).samB s8 (s7 _ _ hacc) hacc2 hbv
        have hacl2 := pLen hp2
        rw [List.length_append, List.nil_append] at hacl2
        have hb2 : acc2.length ≤ 100000 := by
          rw [hacl2]
          exact Nat.le_trans (Nat.le_trans (Nat.add_le_add_left (flat_len ws.length _ t (by omega)) _) hz1) hsz
        rw [getDs hb] at kk2
        have sbase : Same H _ := s2.trans (s3.trans ((s5.trans ((SamB.of s7).trans s8)).same hD s4))
        refine ⟨_, rfl, _, rfl, x', z, b, [], rfl, hbv', hZ.same sbase, by decide, fun H10 s10 => ⟨_, rfl, ite2 (fun cc => ?_) (fun cc => ?_)⟩⟩
        · have hh : holds b [] = true := cc
          simp only [hh, if_true] at kk2
          have hacc3 := s10 _ _ hacc2
          have hCT' := sameT s10 (s8.seqT (s7 _ _ hacc) (sameT s7 hCT))
          have hCP' := (stayP K).all s10 ((stayP K).samBs s8 (s7 _ _ hacc) hacc2 ((stayP K).all s7 hCP))
          refine ⟨_, rfl, .inl ⟨rfl, _, SqL.of hacc3⟩, _, rfl, by show 1 ≤ sizeLine; decide, fun a5 ha5 => ⟨_, rfl, ?_⟩⟩
          refine cat_first (stayP K) ha5 ((stayP K).same s10 hbv') hCT' hCP' (by omega) fun y H11 s11 hy => ⟨D, acc2, y, rfl, rfl, s11 _ _ hacc3, sz (by omega), ?_⟩
          refine kk2 _ _ (acc2 ++ [y]) ⟨_, rfl⟩ (SamB.of (s10.trans s11)).upd upd_same ?_
          exact pApp ((stayF K).allL (s11 _ _ hacc3) ((stayF K).all (s10.trans s11) hp2)) (.cons ((stayF K).lst (s11 _ _ hacc3) hy) .nil)
        · have hh : ¬ holds b [] = true := cc
          simp only [if_neg hh, List.append_nil] at kk2
          exact kk2 _ _ acc2 ⟨_, rfl⟩ (SamB.of s10) (s10 _ _ hacc2) ((stayF K).all s10 hp2)
      · obtain ⟨v7, rfl⟩ := hsg
        rw [lT] at hp2
        exact kk1 _ _ acc2 ⟨_, _, rfl⟩ ((SamB.of s7).trans s8) hacc2 hp2
    · obtain ⟨v6, v7, rfl⟩ := hsg
      rw [List.nil_append, lR, ech] at hp
      refine ⟨_, rfl, D, _, rfl, .inl (SqL.of hacc), fun l2 hl2 => ?_⟩
      have s6 := same_new hl2 (.lst acc)
      exact ⟨s3.trans ((s5.same hD s4).trans s6), l2, acc, _, _, _, _, _, rfl, upd_same, (stayF K).all s6 hp, hst, hfin⟩
  · obtain ⟨s3, lc, vs, chs, v4, v5, v6, v7, rfl, hlc, hpc, hst, hfin⟩ := hp
    rw [List.drop_of_length_le (by rw [List.length_reverse]; exact Nat.le_refl _)] at hst hfin
    rw [List.foldl_nil] at hfin
    rw [← hfin] at qq
    have lR := pLen hpc
    unfold stepsOk at hst
    rw [Bool.and_eq_true, Bool.and_eq_true, decide_eq_true_eq, List.all_eq_true, Bool.or_eq_true, decide_eq_true_eq, List.all_eq_true] at hst
    obtain ⟨⟨hsz, hok⟩, hne⟩ := hst
    refine ⟨_, rfl, lc, rfl, ⟨_, SqL.of hlc⟩, fun D hD => ?_⟩
    refine lc_pure (walk_list (xs := vs)) (IsF K) (stayF K) (fun t => (fun ch => if decide (ch.getD 0 [] = []) = true then some (fillingOf ch) else none) (chs.getD t [])) hD (by omega) (fun H4 s4 => s4.seq (SqL.of hlc)) (fun j x' H4 H5 K1 K2 hj s4 hy k1 k2 => ?_) (fun H4 acc s4 hacc hp => ?_)
    · obtain ⟨rfl, hx⟩ := hy
      obtain ⟨ch, hch, hchv⟩ := pAt hpc hx
      have hchv' := (stayF K).same s4 hchv
      have hchw := hchv'
      obtain ⟨ca, cvs, rfl, hCT, hCP⟩ := hchv'
      have hokc := hok ch (List.mem_of_getElem? hch)
      rw [Bool.and_eq_true, decide_eq_true_eq, Bool.or_eq_true, decide_eq_true_eq] at hokc
      obtain ⟨hcn, hcb⟩ := hokc
      have hc0 : 0 < ch.length := List.length_pos_iff.mpr hcn
      obtain ⟨_, g0, hv0, h0, hB0⟩ := pAt' hCP (getSome [] hc0)
      subst h0
      rw [getDs hch] at k1 k2
      refine ⟨rfl, _, rfl, ca, _, _, _, rfl, rfl, hCT, atI_nat (j := 0) g0, _, rfl, encP (ch.getD 0 []), encP [], IsP.dp ⟨hv0, rfl, hB0⟩, (hZ.same (s2.trans (s3.trans s4))).dp, shapedP _, shapedP _, _, rfl, ite2 (fun cc => ?_) (fun cc => ?_)⟩
      · have hh : ch.getD 0 [] = [] := by
          have : PyData.eqv (encP (ch.getD 0 [])) (encP []) = true := cc
          rw [eqvP] at this
          exact of_decide_eq_true this
        refine ⟨_, rfl, .ref ca, ch, rfl, hchw, chainB_of hcn (hcb.resolve_left fun h => h hh), fun r H6 s6 hr6 => ?_⟩
        exact k1 _ _ _ s6 (if_pos (decide_eq_true hh)) hr6
      · have hh : ¬ ch.getD 0 [] = [] := by
          have : PyData.eqv (encP (ch.getD 0 [])) (encP []) = false := Bool.eq_false_iff.mpr cc
          rw [eqvP] at this
          exact of_decide_eq_false this
        exact k2 _ (Same.refl _) (if_neg (by rw [decide_eq_false hh]; decide))
    · rw [lR, fm_getD chs [] (fun ch => if decide (ch.getD 0 [] = []) = true then some (fillingOf ch) else none), fm_fil_map (fun ch => decide (ch.getD 0 [] = [])) fillingOf] at hp
      refine ⟨D, acc, lastOf chs, rfl, SqL.of hacc, hp, fun h2 b hb => ?_, fun ys p hys hpn => ?_⟩
      · rcases hne with hne | hne
        · omega
        · have h3 : b ≠ [] := of_decide_eq_true (hne b hb)
          exact h3
      refine ⟨p, _, rfl, .inl ⟨SqL.of upd_same, fun t ht => ?_⟩⟩
      have s5 := same_new hpn (.lst ys)
      have s6 := same_new ht (.tup ys)
      exact qq _ _ (s2.trans (s3.trans (s4.trans (s5.trans s6)))) ⟨t, ys, rfl, SqT.of upd_same, (stayF K).all (s5.trans s6) hys⟩
end
end K19

namespace K19
open PySem PySem.Spec PyProof.Rows L2
def nodupB : List Int → Bool
  | [] => true
  | x :: r => (r.all fun y => decide (x ≠ y)) && nodupB r
theorem nodupB_of : ∀ {l : List Int}, nodupB l = true → l.Nodup
  | [], _ => List.nodup_nil
  | x :: r, h => by
    unfold nodupB at h
    rw [Bool.and_eq_true, List.all_eq_true] at h
    exact List.nodup_cons.mpr ⟨fun hm => absurd rfl (of_decide_eq_true (h.1 x hm)), nodupB_of h.2⟩
def okS (b : List Int) (k : Int) : Bool := decide (b.length ≤ 10) && b.all (fun z => decide (-1000 ≤ z) && decide (z ≤ 1000)) && decide (-1000 ≤ k) && decide (k ≤ 1000) && decide ((mrows (b ++ [0]) ((partAt b 0 + k) :: b) (b.sum + k)).length ≤ 100000)
theorem okS_of {a : List Int} {k : Int} (h : okS a k = true) : a.length ≤ 10 ∧ Bd2 a ∧ -1000 ≤ k ∧ k ≤ 1000 ∧ (mrows (a ++ [0]) ((partAt a 0 + k) :: a) (a.sum + k)).length ≤ 100000 := by
  unfold okS at h
  rw [Bool.and_eq_true, Bool.and_eq_true, Bool.and_eq_true, Bool.and_eq_true, decide_eq_true_eq, decide_eq_true_eq, decide_eq_true_eq, decide_eq_true_eq] at h
  obtain ⟨⟨⟨⟨h1, h2⟩, h3⟩, h4⟩, h5⟩ := h
  exact ⟨h1, bd_of h2, h3, h4, h5⟩
def countOk (outer : List Int) : List Int → List (List Int × Int) → Bool
  | [], _ => true
  | k :: ks, L => (decide (L.length < 2) || L.all fun p => decide (p.1 ≠ [])) && (L.all fun p => okS p.1 k) && nodupB ((countStep outer L k).map fun p => tupHash p.1) && decide ((countStep outer L k).length ≤ 100000) && countOk outer ks (countStep outer L k)
theorem len_put (L : List (List Int × Int)) (k : List Int) (v : Int) : L.length ≤ (dput L k v).length := by
  unfold dput
  split
  · rw [List.length_map]
    exact Nat.le_refl _
  · rw [List.length_append]
    exact Nat.le_add_right _ _
theorem addAll_cons (outer : List Int) (c : Int) (L : List (List Int × Int)) (a : List Int) (r : List (List Int)) : addAll outer c L (a :: r) = addAll outer c (if holds outer a = true then dput L a ((dget L a).getD 0 + c) else L) r := rfl
theorem len_addAll (outer : List Int) (c : Int) : ∀ (as : List (List Int)) (L : List (List Int × Int)), L.length ≤ (addAll outer c L as).length
  | [], L => Nat.le_refl _
  | a :: r, L => by
    rw [addAll_cons]
    refine Nat.le_trans ?_ (len_addAll outer c r _)
    split
    · exact len_put _ _ _
    · exact Nat.le_refl _
def cstep (outer : List Int) (counts : List (List Int × Int)) (k : Int) (later : List (List Int × Int)) (b : List Int) : List (List Int × Int) := addAll outer ((dget counts b).getD 0) later (withStrip b k)
theorem len_fold (outer : List Int) (counts : List (List Int × Int)) (k : Int) : ∀ (bs : List (List Int)) (L : List (List Int × Int)), L.length ≤ (bs.foldl (cstep outer counts k) L).length
  | [], L => Nat.le_refl _
  | b :: r, L => Nat.le_trans (len_addAll outer _ _ L) (len_fold outer counts k r _)
theorem dget_mem {k : List Int} : ∀ {L : DL}, k ∈ L.map (·.1) → ∃ v, dget (era L) k = some v
  | [], h => by simp at h
  | p :: r, h => by
    unfold dget era
    by_cases e : p.1 = k
    · rw [List.map_cons, List.find?_cons_of_pos (by simp [e])]
      exact ⟨_, rfl⟩
    · rw [List.map_cons, List.find?_cons_of_neg (by simp [e])]
      refine dget_mem (L := r) ?_
      rw [List.map_cons] at h
      rcases List.mem_cons.mp h with h | h
      · exact absurd h.symm e
      · exact h
theorem eras (L : DL) : (era L).map (·.1) = L.map (·.1) := by
  unfold era
  rw [List.map_map]
  rfl
section
variable {P : Program} {w : World} {K : PySem.W.Frag} {mg : Str → Option Value} {base : Heap}
theorem sambT {D : Addr} {H H1 : Hp} {L0 : DL} {b : Addr} {ys : List V} (a : SamB D H H1) (e : H D = some (DRO P w D L0)) (h : SqT K H b ys) : SqT K H1 b ys := by
  rcases h with (h | ⟨ob, h⟩) | h
  · exact .inl (.inl (a _ _ (ne_of h e (fun z => by cases z)) h))
  · exact .inl (.inr ⟨ob, a _ _ (ne_of h e (fun z => by cases z)) h⟩)
  · exact .inr h
abbrev s_count_fillings : Stmt := topS 22
abbrev n_count_fillings : List Str := ["outer", "content", "inner", "counts", "k", "later", "b", "a"]
theorem sc_count_fillings : FnScope n_count_fillings ["outer", "content", "inner"] (defScope s_count_fillings) := ⟨rfl, rfl, rfl, by decide +kernel, rfl, by decide +kernel, by decide +kernel⟩
def spCount (K : PySem.W.Frag) : Sp := fun vs H Q _ => ∃ (x y z : V) (outer content : List Int), vs = [x, y, z] ∧ IsP K H x outer ∧ IsP K H y content ∧ IsP K H z [] ∧ countOk outer content [([], 1)] = true ∧ ∀ H', Same H H' → Q (.int (countF outer content)) H'
theorem ok_count_fillings {k : Nat} {z0 : V} (F : Dfn K mg "count_fillings" s_count_fillings ["outer", "content", "inner"] [z0]) (c_with_strip : Can P w K mg base k "with_strip" (spWith K) [.bl false]) (c_holds : Can P w K mg base k "holds" (spHolds K) [])
    (m_sorted : mg "sorted" = none) (m_dict : mg "dict" = none) :
    Can P w K mg base (k + 1) "count_fillings" (spCount K) [z0] := by
  refine F.can sc_count_fillings (fun vs H Q E h => ?_) (fun f cdv A outer_ s H vs Q E hr h => ?_)
  · obtain ⟨x, y, z, outer, content, rfl, _⟩ := h
    rfl
  obtain ⟨x, y, z, outer, content, rfl, ⟨xb, rfl, hX⟩, ⟨c, rfl, hC⟩, ⟨zb, rfl, hZ⟩, hst, qq⟩ := h
  refine ⟨_, (pss_cons (ps_set (i := 3) sc_count_fillings.nd rfl (.inl rfl) (pe_oneR (hu_of hr) (pv 2) pe_int))
      (pss_cons (ps_for PassesOwn.never rfl (pi_tup (pv 1)) (pg_name (i := 4) sc_count_fillings.nd rfl (.inl rfl))
      (pss_cons (ps_set (i := 5) sc_count_fillings.nd rfl (.inl rfl) pe_newR)
      (pss_cons (ps_for PassesOwn.never rfl (pi_list (pe_callB (cr_sortR rfl hr.units) (by rfl) m_sorted (by decide +kernel) (pa_cons (pv 3) pa_nil))) (pg_name (i := 6) sc_count_fillings.nd rfl (.inl rfl))
      (pss_one (ps_for PassesOwn.never rfl (pi_tup (pe_can c_with_strip hr (Nat.le_refl _) (by rfl) (pa_cons (pv 6) (pa_cons (pv 4) pa_nil)))) (pg_name (i := 7) sc_count_fillings.nd rfl (.inl rfl))
      (pss_one (ps_if (pt_val (pe_can c_holds hr (Nat.le_refl _) (by rfl) (pa_cons (pv 0) (pa_cons (pv 7) pa_nil)))) (pss_one (ps_putR (hu_of hr) (pv 5) (pv 7) (pe_op op_add (pe_get2R (hu_of hr) (pv 5) (pv 7) pe_int ⟨rfl, rfl, rfl, rfl⟩) (pe_getR (hu_of hr) (pv 3) (pv 6) (fun _ _ => rfl))) rfl)) pss_nil)))))
      (pss_one (ps_set (i := 3) sc_count_fillings.nd rfl (.inl rfl) (pe_callTy (cr_copyR hr.units) (by rfl) m_dict (by decide +kernel) (pa_cons (pv 5) pa_nil)))))))
      (pss_one (ps_ret (pe_get2R (hu_of hr) (pv 3) (pv 0) pe_int ⟨rfl, rfl, rfl, rfl⟩))))), ?_⟩
  refine fun d0 hd0 => ⟨_, rfl, upd_same, zb, [], 1, rfl, sameT (same_new hd0 _) hZ, rfl, ?_⟩
  have s1 : Same H (upd (upd H d0 (DRO P w d0 [])) d0 (DRO P w d0 [([], zb, 1)])) := same_upd_new hd0 (same_new hd0 _)
  have hd1 : upd (upd H d0 (DRO P w d0 [])) d0 (DRO P w d0 [([], zb, 1)]) d0 = some (DRO P w d0 [([], zb, 1)]) := upd_same
  have hk1 : Keys K (upd (upd H d0 (DRO P w d0 [])) d0 (DRO P w d0 [([], zb, 1)])) [([], zb, 1)] := fun p hp => by
    rw [List.mem_singleton.mp hp]
    exact sameT s1 hZ
  show gName 3 (V.ref d0) _ (upd (upd H d0 (DRO P w d0 [])) d0 (DRO P w d0 [([], zb, 1)])) _
  generalize upd (upd H d0 (DRO P w d0 [])) d0 (DRO P w d0 [([], zb, 1)]) = H1 at s1 hd1 hk1
  refine ⟨_, rfl, c, rfl, ⟨_, sameT s1 hC⟩, ?_⟩
  refine for_it (walk_tup (xs := content.map V.int)) (fun i σ H' => Same H H' ∧ ∃ d L v4 v5 v6 v7, σ = [some (.ref xb), some (.ref c), some (.ref zb), some (.ref d), v4, v5, v6, v7] ∧ H' d = some (DRO P w d L) ∧ Keys K H' L ∧ countOk outer (content.drop i) (era L) = true ∧ (content.drop i).foldl (countStep outer) (era L) = content.foldl (countStep outer) [([], 1)]) ⟨s1, d0, [([], zb, 1)], none, none, none, none, rfl, hd1, hk1, hst, rfl⟩ (fun i σ H' _ hp => sameT hp.1 hC) (fun i x' σ H3 H4 hi hp hy => ?_) (fun σ H3 hp => ?_)
  · obtain ⟨s3, d, L, v4, v5, v6, v7, rfl, hd, hK, hst, hfin⟩ := hp
    obtain ⟨rfl, hx⟩ := hy
    rw [List.length_map] at hi
    rw [getI hi] at hx
    obtain rfl := Option.some.inj hx
    obtain ⟨kk, ekk⟩ : ∃ kk, kk = content.getD i 0 := ⟨_, rfl⟩
    have hdr : content.drop i = kk :: content.drop (i + 1) := by
      rw [List.drop_eq_getElem_cons hi, ekk]
      congr 1
      simp [List.getD, List.getElem?_eq_getElem hi]
    rw [← ekk]
    rw [hdr] at hst hfin
    rw [List.foldl_cons] at hfin
    unfold countOk at hst
    rw [Bool.and_eq_true, Bool.and_eq_true, Bool.and_eq_true, Bool.and_eq_true, Bool.or_eq_true, decide_eq_true_eq, decide_eq_true_eq, List.all_eq_true, List.all_eq_true] at hst
    obtain ⟨⟨⟨⟨hne, hok⟩, hnd⟩, hsz⟩, hst⟩ := hst
    have hle : L.length = (era L).length := by unfold era; rw [List.length_map]
    refine fun D hD => ?_
    have s4 := same_new hD (DRO P w D [])
    have nd : d ≠ D := ne_of_none hd hD
    have hD4 : upd H4 D (DRO P w D []) D = some (DRO P w D []) := upd_same
    show gName 5 (V.ref D) _ (upd H4 D (DRO P w D [])) _
    generalize hH5 : upd H4 D (DRO P w D []) = H5 at s4 hD4
    refine ⟨_, rfl, d, L, rfl, s4 _ _ hd, hK.same s4, fun h2 p hp => ?_, fun ys p hys hp => ⟨p, rfl, ⟨_, SqL.of upd_same⟩, ?_⟩⟩
    · rcases hne with hne | hne
      · omega
      · exact of_decide_eq_true (hne (p.1, p.2.2) (List.mem_map.mpr ⟨p, hp, rfl⟩))
    have s5 := same_new hp (.lst ys)
    have hp5 : upd H5 p (.lst ys) p = some (.lst ys) := upd_same
    have hys5 := (stayP K).all s5 hys
    have hD5 := s5 _ _ hD4
    have np : p ≠ D := fun e => by
      rw [e, hD4] at hp
      cases hp
    have s45 := s4.trans s5
    generalize upd H5 p (.lst ys) = H6 at s5 hp5 hys5 hD5 s45
    have lY := pLen hys5
    obtain ⟨bs, ebs⟩ : ∃ bs, bs = isort le1 (L.map (·.1)) := ⟨_, rfl⟩
    rw [← ebs] at hys5 lY
    have enx : bs.foldl (cstep outer (era L) kk) [] = countStep outer (era L) kk := by
      rw [ebs, ← eras]
      rfl
    have hbm : ∀ b ∈ bs, b ∈ L.map (·.1) := fun b hb => by
      rw [ebs] at hb
      exact (isort_perm _).mem_iff.mp hb
    refine for_it (walk_list (xs := ys)) (fun j σ H' => SamB D H6 H' ∧ ∃ L' v6 v7, σ = [some (.ref xb), some (.ref c), some (.ref zb), some (.ref d), some (.int kk), some (.ref D), v6, v7] ∧ H' D = some (DRO P w D L') ∧ Keys K H' L' ∧ (bs.drop j).foldl (cstep outer (era L) kk) (era L') = countStep outer (era L) kk) ⟨.refl _ _, [], _, _, rfl, hD5, fun _ h => absurd h List.not_mem_nil, enx⟩ (fun j σ H' _ hp => hp.1.seqL np (SqL.of hp5)) (fun j x' σ H7 H8 hj hp hy => ?_) (fun σ H7 hp => ?_)
    · obtain ⟨s7, L', v6, v7, rfl, hD7, hK7, hf7⟩ := hp
      obtain ⟨rfl, hx⟩ := hy
      have hjb : j < bs.length := by omega
      obtain ⟨b, hb, bb, rfl, hB⟩ := pAt hys5 hx
      have hB7 := sambT s7 hD5 hB
      have hdb : bs.drop j = b :: bs.drop (j + 1) := by
        rw [List.drop_eq_getElem_cons hjb]
        congr 1
        exact Option.some.inj ((List.getElem?_eq_getElem hjb).symm.trans hb)
      rw [hdb, List.foldl_cons] at hf7
      obtain ⟨v, hv⟩ := dget_mem (hbm b (List.mem_of_getElem? hb))
      have hokb : okS b kk = true := by
        obtain ⟨q, hq, e⟩ := List.mem_map.mp (hbm b (List.mem_of_getElem? hb))
        have := hok (q.1, q.2.2) (List.mem_map.mpr ⟨q, hq, rfl⟩)
        rw [← e]
        exact this
      obtain ⟨w1, w2, w3, w4, w5⟩ := okS_of hokb
      have hmid : cstep outer (era L) kk (era L') b = addAll outer v (era L') (withStrip b kk) := by
        unfold cstep
        rw [hv]
        rfl
      rw [hmid] at hf7
      have hmsz : (addAll outer v (era L') (withStrip b kk)).length ≤ 100000 := by
        refine Nat.le_trans (len_fold outer (era L) kk (bs.drop (j + 1)) _) ?_
        rw [hf7]
        exact hsz
      refine ⟨_, rfl, _, rfl, .ref bb, b, kk, rfl, ⟨bb, rfl, hB7⟩, w1, w2, w3, w4, w5, fun r H9 s9 hr9 => ?_⟩
      obtain ⟨ws, ews⟩ : ∃ ws, ws = withStrip b kk := ⟨_, rfl⟩
      have hwl : ∀ a ∈ ws, a.length ≤ 1000 := fun a ha => by
        rw [ews] at ha
        obtain ⟨q, hq, rfl⟩ := List.mem_map.mp ha
        have := mrows_len _ _ _ q hq
        rw [List.length_append, List.length_singleton] at this
        refine Nat.le_trans (List.length_filter_le _ _) ?_
        omega
      rw [← ews] at hr9 hmsz hf7
      obtain ⟨ta, tvs, rfl, hT, pT⟩ := hr9
      have lT := pLen pT
      have hD9 := s9 _ _ hD7
      refine ⟨ta, rfl, ⟨_, hT⟩, ?_⟩
      refine for_it (walk_tup (xs := tvs)) (fun t σ H' => SamB D H9 H' ∧ ∃ L'' v7, σ = [some (.ref xb), some (.ref c), some (.ref zb), some (.ref d), some (.int kk), some (.ref D), some (.ref bb), v7] ∧ H' D = some (DRO P w D L'') ∧ Keys K H' L'' ∧ addAll outer v (era L'') (ws.drop t) = addAll outer v (era L') ws) ⟨.refl _ _, L', _, rfl, hD9, hK7.same s9, rfl⟩ (fun t σ H' _ hp => sambT hp.1 hD9 hT) (fun t x' σ H10 H11 ht hp hy => ?_) (fun σ H10 hp => ?_)
      · obtain ⟨s10, L'', v7, rfl, hD10, hK10, hf10⟩ := hp
        obtain ⟨rfl, hx⟩ := hy
        have htw : t < ws.length := by omega
        obtain ⟨a, ha, ab, rfl, hA⟩ := pAt pT hx
        have hA10 := sambT s10 hD9 hA
        have hda : ws.drop t = a :: ws.drop (t + 1) := by
          rw [List.drop_eq_getElem_cons htw]
          congr 1
          exact Option.some.inj ((List.getElem?_eq_getElem htw).symm.trans ha)
        rw [hda, addAll_cons] at hf10
        have slow : Same H4 _ := SamB.same hD s45 (s7.trans ((SamB.of s9).trans s10))
        have sall := s3.trans slow
        refine ⟨_, rfl, _, rfl, .ref xb, .ref ab, outer, a, rfl, ⟨xb, rfl, sameT sall hX⟩, ⟨ab, rfl, hA10⟩, hwl a (List.mem_of_getElem? ha), fun H12 s12 => ⟨_, rfl, ite2 (fun cc => ?_) (fun cc => ?_)⟩⟩
        · have hh : holds outer a = true := cc
          rw [if_pos hh] at hf10
          have hD12 := s12 _ _ hD10
          have hK12 := hK10.same s12
          have hA12 := sameT s12 hA10
          have hd12 := s12 _ _ (slow _ _ hd)
          have hKd12 := hK.same (slow.trans s12)
          have hB12 : SqT K H12 bb (b.map V.int) := sameT s12 (sambT s10 hD9 (sameT s9 hB7))
          have hl12 : L''.length < sizeLine := by
            have e1 : L''.length = (era L'').length := by unfold era; rw [List.length_map]
            have e2 := len_put (era L'') a ((dget (era L'') a).getD 0 + v)
            have e3 := len_addAll outer v (ws.drop (t + 1)) (dput (era L'') a ((dget (era L'') a).getD 0 + v))
            rw [hf10] at e3
            exact sz (by omega)
          refine ⟨_, rfl, D, L'', rfl, hD12, hK12, _, rfl, ab, a, 0, rfl, hA12, rfl, hD12, hK12, _, rfl, _, rfl, d, L, bb, b, v, rfl, hd12, hKd12, rfl, hB12, hv, _, _, rfl, rfl, ?_⟩
          refine ⟨_, rfl, _, rfl, D, L'', ab, a, _, rfl, rfl, hD12, hK12, rfl, hA12, hl12, ?_⟩
          refine ⟨(s10.trans (SamB.of s12)).upd, storeL L'' a ab _, _, rfl, upd_same, storeL_keys (hK12.upd hD12) (key_upd hD12 hA12), ?_⟩
          rw [era_store]
          exact hf10
        · have hh : ¬ holds outer a = true := cc
          rw [if_neg hh] at hf10
          exact ⟨s10.trans (SamB.of s12), L'', _, rfl, s12 _ _ hD10, hK10.same s12, hf10⟩
      · obtain ⟨s10, L'', v7, rfl, hD10, hK10, hf10⟩ := hp
        rw [lT, List.drop_of_length_le (Nat.le_refl _)] at hf10
        refine ⟨s7.trans ((SamB.of s9).trans s10), L'', _, _, rfl, hD10, hK10, ?_⟩
        rw [show era L'' = addAll outer v (era L') ws from hf10]
        exact hf7
    · obtain ⟨s7, L', v6, v7, rfl, hD7, hK7, hf7⟩ := hp
      rw [lY, List.drop_of_length_le (Nat.le_refl _), List.foldl_nil] at hf7
      refine ⟨_, rfl, D, L', rfl, hD7, hK7, ?_, fun q hq => ?_⟩
      · unfold hashOk
        rw [hf7]
        exact nodupB_of hnd
      · have s8 := same_new hq (DRO P w q L')
        refine ⟨s3.trans ((SamB.same hD s45 s7).trans s8), q, L', _, _, _, _, rfl, upd_same, hK7.same s8, ?_, ?_⟩
        · rw [hf7]
          exact hst
        · rw [hf7]
          exact hfin
  · obtain ⟨s3, d, L, v4, v5, v6, v7, rfl, hd, hK, hst, hfin⟩ := hp
    rw [List.length_map, List.drop_of_length_le (Nat.le_refl _), List.foldl_nil] at hfin
    refine ⟨_, rfl, d, L, rfl, hd, hK, _, rfl, xb, outer, 0, rfl, sameT s3 hX, rfl, hd, hK, ?_⟩
    rw [hfin]
    exact qq _ s3
end
end K19

namespace K19
open PySem PySem.Spec PyProof.Rows L2
theorem cut_mem {xs : List V} {lo hi : Option Int} {v : V} (h : v ∈ cutV xs lo hi) : v ∈ xs := List.mem_of_mem_drop (List.mem_of_mem_take h)
section
variable {P : Program} {w : World} {K : PySem.W.Frag} {mg : Str → Option Value} {base : Heap}
abbrev s_law_state : Stmt := topS 30
abbrev n_law_state : List Str := ["_law_script", "_law_seed", "_law_total", "_law_cell"]
theorem sc_law_state : FnScope n_law_state ["_law_script"] (defScope s_law_state) := ⟨rfl, rfl, rfl, by decide +kernel, rfl, by decide +kernel, by decide +kernel⟩
def spState (K : PySem.W.Frag) : Sp := fun vs H Q _ => ∃ (a : Addr) (ns : List Int), vs = [.ref a] ∧ SqL K H a (ns.map V.int) ∧ ∀ (l : Addr) (s t : Int) (H' : Hp), Same H H' → H' l = some (.lst [.int s, .int t]) → Q (.ref l) H'
theorem ok_law_state {k : Nat} (F : Dfn K mg "_law_state" s_law_state ["_law_script"] []) (m_abs : mg "abs" = none) (m_int : mg "int" = none) :
    Can P w K mg base (k + 1) "_law_state" (spState K) [] := by
  refine F.can sc_law_state (fun vs H Q E h => ?_) (fun f cdv A outer_ s H vs Q E hr h => ?_)
  · obtain ⟨a, ns, rfl, _⟩ := h
    rfl
  obtain ⟨a, ns, rfl, hS, qq⟩ := h
  refine ⟨_, (pss_cons (ps_set (i := 1) sc_law_state.nd rfl (.inl rfl) pe_int)
      (pss_cons (ps_set (i := 2) sc_law_state.nd rfl (.inl rfl) pe_int)
      (pss_cons (ps_for PassesOwn.never rfl (pi_list (pe_slice sl_list (pv 0) po_none (po_some pe_int))) (pg_name (i := 3) sc_law_state.nd rfl (.inl rfl))
      (pss_cons (ps_set (i := 1) sc_law_state.nd rfl (.inl rfl) (pe_op op_add (pe_op op_mul (pv 1) pe_int) (pe_callB call_abs (by rfl) m_abs (by decide +kernel) (pa_cons (pv 3) pa_nil))))
      (pss_one (ps_set (i := 2) sc_law_state.nd rfl (.inl rfl) (pe_op op_mod (pe_callTy call_int1 (by rfl) m_int (by decide +kernel) (pa_cons (pe_op op_add (pe_op op_mul (pv 2) pe_int) (pv 3)) pa_nil)) pe_int)))))
      (pss_one (ps_ret (pe_lst (pa_cons (pv 1) (pa_cons (pv 2) pa_nil)))))))), ?_⟩
  refine ⟨_, rfl, _, rfl, a, _, rfl, hS, fun p hp => ⟨p, rfl, ⟨_, SqL.of upd_same⟩, ?_⟩⟩
  have s1 := same_new hp (.lst (cutV (ns.map V.int) none (some 63)))
  have hp1 : upd H p (.lst (cutV (ns.map V.int) none (some 63))) p = some (.lst (cutV (ns.map V.int) none (some 63))) := upd_same
  generalize upd H p (.lst (cutV (ns.map V.int) none (some 63))) = H1 at s1 hp1
  refine for_it (walk_list (xs := cutV (ns.map V.int) none (some 63))) (fun i σ H' => Same H1 H' ∧ ∃ s t v3, σ = [some (.ref a), some (.int s), some (.int t), v3]) ⟨.refl _, 0, 1, none, rfl⟩ (fun i σ H' _ hp => hp.1.seq (SqL.of hp1)) (fun i x' σ H3 H4 hi hp hy => ?_) (fun σ H3 hp => ?_)
  · obtain ⟨s3, s, t, v3, rfl⟩ := hp
    obtain ⟨rfl, hx⟩ := hy
    obtain ⟨z, _, rfl⟩ := List.mem_map.mp (cut_mem (List.mem_of_getElem? hx))
    refine ⟨_, rfl, _, _, rfl, rfl, .inr ⟨by decide, by decide⟩, _, rfl, _, rfl, _, _, rfl, rfl, ?_⟩
    refine ⟨_, rfl, _, _, rfl, rfl, .inr ⟨by decide, by decide⟩, _, rfl, _, _, rfl, rfl, .inl ⟨_, rfl, _, _, rfl, rfl, (by show (0 : Int) < 2147483647; decide), ?_⟩⟩
    exact ⟨s3, _, _, _, rfl⟩
  · obtain ⟨s3, s, t, v3, rfl⟩ := hp
    refine ⟨_, rfl, _, rfl, by show 2 ≤ sizeLine; decide, fun l hl => ?_⟩
    exact qq _ _ _ _ (s1.trans (s3.trans (same_new hl _))) upd_same
abbrev s_law_take : Stmt := topS 31
abbrev n_law_take : List Str := ["_law_state_here", "_law_m", "_law_value"]
theorem sc_law_take : FnScope n_law_take ["_law_state_here", "_law_m"] (defScope s_law_take) := ⟨rfl, rfl, rfl, by decide +kernel, rfl, by decide +kernel, by decide +kernel⟩
def spTake (K : PySem.W.Frag) : Sp := fun vs H Q _ => ∃ (a : Addr) (m s t : Int), vs = [.ref a, .int m] ∧ H a = some (.lst [.int s, .int t]) ∧ 0 < m ∧ m < 1000 ∧ ∀ v s' t' : Int, 0 ≤ v → v < m → Q (.int v) (upd H a (.lst [.int s', .int t']))
theorem ok_law_take {k : Nat} (F : Dfn K mg "_law_take" s_law_take ["_law_state_here", "_law_m"] []) (m_int : mg "int" = none) :
    Can P w K mg base (k + 1) "_law_take" (spTake K) [] := by
  refine F.can sc_law_take (fun vs H Q E h => ?_) (fun f cdv A outer_ st H vs Q E hr h => ?_)
  · obtain ⟨a, m, s, t, rfl, _⟩ := h
    rfl
  obtain ⟨a, m, s, t, rfl, ha, hm, hm2, qq⟩ := h
  refine ⟨_, (pss_cons (ps_if (pt_cmpR op_gt (pe_ix (ixL (K := K) rfl) (pv 0) pe_int (fun _ _ => rfl)) pe_int (nomark _)) (pss_cons (ps_set (i := 2) sc_law_take.nd rfl (.inl rfl) (pe_op op_mod (pe_callTy call_int1 (by rfl) m_int (by decide +kernel) (pa_cons (pe_ix (ixL (K := K) rfl) (pv 0) pe_int (fun _ _ => rfl)) pa_nil)) (pv 1)))
      (pss_cons (ps_asg (pe_op op_fdiv (pe_ix (ixL (K := K) rfl) (pv 0) pe_int (fun _ _ => rfl)) (pv 1)) (pg_sub (pv 0) pe_int set_list))
      (pss_one (ps_ret (pv 2))))) pss_nil)
      (pss_cons (ps_asg (pe_op op_mod (pe_callTy call_int1 (by rfl) m_int (by decide +kernel) (pa_cons (pe_op op_add (pe_op op_mul (pe_ix (ixL (K := K) rfl) (pv 0) pe_int (fun _ _ => rfl)) pe_int) pe_int) pa_nil)) pe_int) (pg_sub (pv 0) pe_int set_list))
      (pss_one (ps_ret (pe_op op_mod (pe_callTy call_int1 (by rfl) m_int (by decide +kernel) (pa_cons (pe_op op_fdiv (pe_ix (ixL (K := K) rfl) (pv 0) pe_int (fun _ _ => rfl)) pe_int) pa_nil)) (pv 1)))))), ?_⟩
  have e0 : ∀ x y : V, atI [x, y] 0 = some x := fun x y => atI_nat (j := 0) rfl
  have e1 : ∀ x y : V, atI [x, y] 1 = some y := fun x y => atI_nat (j := 1) rfl
  refine ⟨_, rfl, a, _, _, _, rfl, rfl, SqL.of ha, e0 _ _, _, _, rfl, rfl, _, rfl, ite2 (fun c => ?_) (fun c => ?_)⟩
  · refine ⟨_, rfl, a, _, _, _, rfl, rfl, SqL.of ha, e0 _ _, .inl ⟨_, rfl, _, rfl, _, _, rfl, rfl, hm, ?_⟩⟩
    refine ⟨_, rfl, a, _, _, _, rfl, rfl, SqL.of ha, e0 _ _, _, rfl, _, _, rfl, rfl, ⟨hm, by omega⟩, _, rfl, a, _, _, 0, rfl, rfl, ha, rfl, ?_⟩
    exact ⟨_, rfl, qq _ (s / m) t (Int.emod_nonneg _ (by omega)) (Int.emod_lt_of_pos _ hm)⟩
  · refine ⟨_, rfl, a, _, _, _, rfl, rfl, SqL.of ha, e1 _ _, _, _, rfl, rfl, .inr ⟨by decide, by decide⟩, _, _, rfl, rfl, .inl ⟨_, rfl, _, _, rfl, rfl, (by show (0 : Int) < 2147483647; decide), _, rfl, a, _, _, 1, rfl, rfl, ha, rfl, ?_⟩⟩
    refine ⟨_, rfl, a, _, _, _, rfl, rfl, SqL.of upd_same, e1 _ _, _, _, rfl, rfl, ⟨by decide, by decide⟩, .inl ⟨_, rfl, _, rfl, _, _, rfl, rfl, hm, ?_⟩⟩
    exact qq _ s _ (Int.emod_nonneg _ (by omega)) (Int.emod_lt_of_pos _ hm)
end
end K19

namespace K19
open PySem PySem.Spec PyProof.Rows L2
theorem maxI_spec : ∀ {l : List Int}, l ≠ [] → maxI l ∈ l ∧ ∀ y ∈ l, y ≤ maxI l
  | [], h => absurd rfl h
  | x :: xs, _ => by
    unfold maxI
    have key : ∀ (xs : List Int) (a : Int), (xs.foldl (fun a y => if a < y then y else a) a) ∈ a :: xs ∧ ∀ y ∈ a :: xs, y ≤ xs.foldl (fun a y => if a < y then y else a) a := by
      intro xs
      induction xs with
      | nil => intro a; exact ⟨List.mem_cons_self .., fun y hy => by rw [List.mem_singleton.mp hy]; exact Int.le_refl _⟩
      | cons y r ih =>
        intro a
        rw [List.foldl_cons]
        obtain ⟨h1, h2⟩ := ih (if a < y then y else a)
        have h3 := h2 _ (List.mem_cons_self ..)
        refine ⟨?_, fun z hz => ?_⟩
        · rcases List.mem_cons.mp h1 with h | h
          · rw [h]
            split
            · exact List.mem_cons_of_mem _ (List.mem_cons_self ..)
            · exact List.mem_cons_self ..
          · exact List.mem_cons_of_mem _ (List.mem_cons_of_mem _ h)
        · refine Int.le_trans ?_ (Int.le_refl _)
          rcases List.mem_cons.mp hz with h | h
          · rw [h]
            refine Int.le_trans ?_ h3
            split <;> omega
          · rcases List.mem_cons.mp h with h | h
            · rw [h]
              refine Int.le_trans ?_ h3
              split <;> omega
            · exact h2 _ (List.mem_cons_of_mem _ h)
    exact key xs x
theorem lawRows_cons (b : Int) (bs : List Int) (t : Int) : lawRows (b :: bs) t = (List.range ((if b < t then b else t) + 1).toNat).flatMap fun (x : Nat) => (lawRows bs (t - (x : Int))).map fun rest => (x : Int) :: rest := rfl
theorem flat_bound {α : Type} (f : Nat → List α) (B : Nat) : ∀ n, (∀ i, i < n → (f i).length ≤ B) → ((List.range n).flatMap f).length ≤ n * B
  | 0, _ => by simp
  | n + 1, h => by
    rw [List.range_succ, List.flatMap_append, List.length_append, Nat.succ_mul]
    have h1 := flat_bound f B n fun i hi => h i (by omega)
    have h2 := h n (by omega)
    simp only [List.flatMap_cons, List.flatMap_nil, List.append_nil]
    omega
theorem lawRows_len : ∀ (bs : List Int) (t : Int), t ≤ 5 → (lawRows bs t).length ≤ 6 ^ bs.length
  | [], t, _ => by
    unfold lawRows
    split <;> simp
  | b :: bs, t, h => by
    rw [lawRows_cons, List.length_cons, Nat.pow_succ, Nat.mul_comm]
    refine Nat.le_trans (flat_bound _ (6 ^ bs.length) _ fun i hi => ?_) (Nat.mul_le_mul_right _ ?_)
    · rw [List.length_map]
      exact lawRows_len bs _ (by omega)
    · split <;> omega
theorem lawRows_mem : ∀ (bs : List Int) (t : Int) (r : List Int), r ∈ lawRows bs t → r.length = bs.length ∧ ∀ j, j < bs.length → 0 ≤ r.getD j 0 ∧ r.getD j 0 ≤ bs.getD j 0
  | [], t, r, h => by
    unfold lawRows at h
    split at h
    · rw [List.mem_singleton.mp h]
      exact ⟨rfl, fun j hj => absurd hj (Nat.not_lt_zero _)⟩
    · exact absurd h List.not_mem_nil
  | b :: bs, t, r, h => by
    rw [lawRows_cons] at h
    obtain ⟨x, hx, h⟩ := List.mem_flatMap.mp h
    obtain ⟨s, hs, rfl⟩ := List.mem_map.mp h
    have hx' := List.mem_range.mp hx
    obtain ⟨h1, h2⟩ := lawRows_mem bs _ s hs
    refine ⟨by rw [List.length_cons, List.length_cons, h1], fun j hj => ?_⟩
    cases j with
    | zero =>
      show 0 ≤ (x : Int) ∧ (x : Int) ≤ b
      split at hx' <;> omega
    | succ j => exact h2 j (by rw [List.length_cons] at hj; omega)
section
variable {P : Program} {w : World} {K : PySem.W.Frag} {mg : Str → Option Value} {base : Heap}
abbrev s_law_rows : Stmt := topS 32
abbrev n_law_rows : List Str := ["_law_total", "_law_bounds", "_law_out", "_law_x", "_law_rest"]
theorem sc_law_rows : FnScope n_law_rows ["_law_total", "_law_bounds"] (defScope s_law_rows) := ⟨rfl, rfl, rfl, by decide +kernel, rfl, by decide +kernel, by decide +kernel⟩
def spLR (K : PySem.W.Frag) (d : Nat) : Sp := fun vs H Q _ => ∃ (x : V) (bs : List Int) (t : Int), vs = [.int t, x] ∧ IsP K H x bs ∧ bs.length < d ∧ bs.length ≤ 1000 ∧ 0 ≤ t ∧ t ≤ 1000 ∧ (∀ z ∈ bs, 0 ≤ z ∧ z ≤ 1000) ∧ (lawRows bs t).length ≤ 100000 ∧ ∀ r H', Same H H' → NewL (IsP K) H H' r (lawRows bs t) → Q r H'
theorem ok_law_rows {k d : Nat} (F : Dfn K mg "_law_rows" s_law_rows ["_law_total", "_law_bounds"] []) (c_law_rows : Can P w K mg base k "_law_rows" (spLR K d) []) (m_len : mg "len" = none) (m_min : mg "min" = none) (m_range : mg "range" = none) : Can P w K mg base (k + 1) "_law_rows" (spLR K (d + 1)) [] := by
  refine F.can sc_law_rows (fun vs H Q E h => ?_) (fun f cdv A outer_ s H vs Q E hr h => ?_)
  · obtain ⟨x, bs, t, rfl, _⟩ := h
    rfl
  obtain ⟨x, bs, t, rfl, ⟨b, rfl, hB⟩, hd, hl, ht0, ht, hbs, hz, q⟩ := h
  refine ⟨_, (pss_cons (ps_if (pt_cmpR op_eq (pe_callB (lenK (K := K) rfl) (by rfl) m_len (by decide +kernel) (pa_cons (pv 1) pa_nil)) pe_int (nomark _)) (pss_one (ps_ret (pe_ifExp (pt_cmpR op_eq (pv 0) pe_int (nomark _)) (pe_lst (pa_cons (pe_tup pa_nil) pa_nil)) (pe_lst pa_nil)))) pss_nil)
      (pss_cons (ps_set (i := 2) sc_law_rows.nd rfl (.inl rfl) (pe_lst pa_nil))
      (pss_cons (ps_for PassesOwn.never rfl (pi_range1 (by rfl) m_range (pa_cons (pe_op op_add (pe_callB (call_min2 rfl) (by rfl) m_min (by decide +kernel) (pa_cons (pv 0) (pa_cons (pe_ix (ixT (K := K) rfl) (pv 1) pe_int (fun _ _ => rfl)) pa_nil))) pe_int) pa_nil)) (pg_name (i := 3) sc_law_rows.nd rfl (.inl rfl))
      (pss_one (ps_for PassesOwn.never rfl (pi_list (pe_can c_law_rows hr (Nat.le_refl _) (by rfl) (pa_cons (pe_op op_sub (pv 0) (pv 3)) (pa_cons (pe_slice (slTK (K := K) rfl) (pv 1) (po_some pe_int) po_none) pa_nil)))) (pg_name (i := 4) sc_law_rows.nd rfl (.inl rfl))
      (pss_one (ps_expr (pe_bm PySem.F.plainAttrs_list PySem.F.slot_list_append PySem.F.type_list_append mt_append (pv 2) (pa_cons (pe_op op_catT (pe_tup (pa_cons (pv 3) pa_nil)) (pv 4)) pa_nil)))))))
      (pss_one (ps_ret (pv 2)))))), ?_⟩
  refine ⟨_, rfl, b, _, rfl, .inr hB, rfl, _, rfl, ite2 (fun c => ?_) (fun c => ?_)⟩
  · have c1 : V.int (((bs.map V.int).length : Nat) : Int) = V.int 0 := of_decide_eq_true c
    have c2 := V.int.inj c1
    rw [List.length_map] at c2
    have e0 : bs = [] := List.length_eq_zero_iff.mp (by omega)
    subst e0
    refine ⟨_, rfl, rfl, _, rfl, ite2 (fun c => ?_) (fun c => ?_)⟩
    · have c1 : t = 0 := V.int.inj (of_decide_eq_true c)
      have e : lawRows [] t = [[]] := by unfold lawRows; rw [if_pos c1]
      rw [e] at q
      refine ⟨by decide, fun a ha => ⟨by show 1 ≤ sizeLine; decide, fun b hb => ?_⟩⟩
      have g := same_new (H := upd H a (.tup [])) hb (.lst [.ref a])
      exact q _ _ ((same_new ha _).trans g) ⟨b, _, rfl, (same_new ha _).free hb, upd_same, .cons ⟨a, rfl, SqT.of (g _ _ upd_same)⟩ .nil⟩
    · have c1 : t ≠ 0 := fun e => c (by rw [e]; exact decide_eq_true rfl)
      have e : lawRows [] t = [] := by unfold lawRows; rw [if_neg c1]
      rw [e] at q
      exact ⟨by decide, fun b hb => q _ _ (same_new hb _) ⟨b, _, rfl, hb, upd_same, .nil⟩⟩
  · have hne : bs ≠ [] := fun e => c (by rw [e]; exact decide_eq_true rfl)
    cases bs with
    | nil => exact absurd rfl hne
    | cons b0 bs =>
    obtain ⟨hi, ehi⟩ : ∃ hi : Int, hi = if b0 < t then b0 else t := ⟨_, rfl⟩
    have hb0 := hbs b0 (List.mem_cons_self ..)
    have hhi : 0 ≤ hi ∧ hi ≤ 1000 ∧ hi ≤ t := by
      rw [ehi]
      split <;> omega
    rw [lawRows_cons, ← ehi] at hz q
    rw [List.length_cons] at hd hl
    refine ⟨by decide, fun o ho => ?_⟩
    have s1 : Same H (upd H o (.lst [])) := same_new ho _
    refine ⟨_, rfl, _, rfl, b, _, _, _, rfl, rfl, sameT s1 hB, atI_nat (j := 0) rfl, t, b0, rfl, ?_⟩
    rw [← ehi]
    refine ⟨_, _, rfl, rfl, _, rfl, by omega, by omega, ?_⟩
    refine for_acc (walk_r0 (n := (hi + 1).toNat)) (R := IsP K) (D := o) (fun σ => ∃ v3 v4, σ = [some (.int t), some (.ref b), some (.ref o), v3, v4]) [] (fun x : Nat => (lawRows bs (t - (x : Int))).map fun rest => (x : Int) :: rest) ⟨_, _, rfl⟩ upd_same .nil (fun _ _ => trivial) (fun i x σ H1 H2 acc N hi' hsg s2 hy hacc hp kk => ?_) (fun σ H1 acc hsg s2 hacc hp => ?_)
    · obtain ⟨rfl, rfl⟩ := hy
      obtain ⟨v3, v4, rfl⟩ := hsg
      have s2' : Same H H2 := s2.same ho s1
      have hz1 := flat_at _ (fun x : Nat => (lawRows bs (t - (x : Int))).map fun rest => (x : Int) :: rest) i hi'
      rw [List.length_map] at hz1
      have hacl := pLen hp
      rw [List.nil_append] at hacl
      have hB2 := sameT s2' hB
      refine ⟨_, rfl, _, rfl, _, _, rfl, rfl, _, rfl, _, rfl, b, _, rfl, hB2, fun hw => ?_, fun _ p2 hp2 => ?_⟩
      · have := hw.1
        rw [six_one (by rw [List.length_map, List.length_cons]; omega)] at this
        cases this
      rw [cut_one, List.map_cons, List.drop_succ_cons, List.drop_zero]
      have s3 := same_new hp2 (.tup (bs.map V.int))
      refine ⟨.ref p2, bs, t - (i : Int), rfl, ⟨p2, rfl, SqT.of upd_same⟩, by omega, by omega, by omega, by omega, fun z hz => hbs z (List.mem_cons_of_mem _ hz), by omega, fun z H3 s6 hz3 => ?_⟩
      replace s6 := s3.trans s6
      obtain ⟨a3, vs3, rfl, n3', h3, p3⟩ := hz3
      have n3 := s3.free n3'
      have hl3 := pLen p3
      have n30 : a3 ≠ o := ne_of_none hacc n3 |>.symm
      refine ⟨a3, rfl, ⟨_, SqL.of h3⟩, ?_⟩
      refine for_acc (walk_list (xs := vs3)) (R := IsP K) (D := o) (fun σ => ∃ v4, σ = [some (.int t), some (.ref b), some (.ref o), some (.int (i : Nat)), v4]) _ (fun j => [(i : Int) :: (lawRows bs (t - (i : Int))).getD j []]) ⟨_, rfl⟩ (s6 _ _ hacc) ((stayP K).all s6 hp) (fun H4 s7 => s7.seqL n30 (SqL.of h3)) (fun j x σ H4 H5 acc2 N2 hj hsg s7 hy hacc2 hp2 kk2 => ?_) (fun σ H4 acc2 hsg s7 hacc2 hp2 => ?_)
      · obtain ⟨rfl, hx⟩ := hy
        obtain ⟨v4, rfl⟩ := hsg
        obtain ⟨rest, hrest, a4, rfl, h4⟩ := pAt p3 hx
        have hrl := (lawRows_mem bs _ rest (List.mem_of_getElem? hrest)).1
        have h4' := s7.seqT (s6 _ _ hacc) h4
        have hacl2 := pLen hp2
        rw [List.length_append, List.nil_append, flat_sing_len] at hacl2
        refine ⟨_, rfl, .inl ⟨rfl, _, SqL.of hacc2⟩, _, rfl, by show 1 ≤ sizeLine; decide, fun a5 ha5 => ⟨_, rfl, ?_⟩⟩
        refine cat_first stayI ha5 rfl h4' (pMapInt rest) (by omega) fun y H6 s9 hy => ⟨o, acc2, y, rfl, rfl, s9 _ _ hacc2, sz (by omega), ?_⟩
        refine kk2 _ _ (acc2 ++ [y]) ⟨_, rfl⟩ (SamB.of s9).upd upd_same ?_
        refine pApp ((stayP K).allL (s9 _ _ hacc2) ((stayP K).all s9 hp2)) (.cons ((stayP K).lst (s9 _ _ hacc2) ?_) .nil)
        rw [getDs hrest]
        exact isP_of hy
      · obtain ⟨v4, rfl⟩ := hsg
        refine kk _ _ acc2 ⟨_, _, rfl⟩ ((SamB.of s6).trans s7) hacc2 ?_
        rw [hl3, flat_one (lawRows bs (t - (i : Int))) [] (fun rest => (i : Int) :: rest)] at hp2
        exact hp2
    · obtain ⟨v3, v4, rfl⟩ := hsg
      rw [List.nil_append] at hp
      exact ⟨_, rfl, q _ _ (s2.same ho s1) ⟨o, acc, rfl, ho, hacc, hp⟩⟩
theorem all_law_rows (F : Dfn K mg "_law_rows" s_law_rows ["_law_total", "_law_bounds"] []) (m_len : mg "len" = none) (m_min : mg "min" = none) (m_range : mg "range" = none) : ∀ n, Can P w K mg base n "_law_rows" (spLR K n) []
  | 0 => none_left F fun vs H Q E h => by
    obtain ⟨_, _, _, _, _, h, _⟩ := h
    exact absurd h (Nat.not_lt_zero _)
  | n + 1 => ok_law_rows F (all_law_rows F m_len m_min m_range n) m_len m_min m_range
end
end K19

namespace K19
open PySem PySem.Spec PyProof.Rows L2
def leftOf (cols row : List Int) : List Int := (List.range cols.length).map fun j => cols.getD j 0 - row.getD j 0
theorem lawMatrices_cons (r : Int) (rs : List Int) (cols : List Int) : lawMatrices (r :: rs) cols = (lawRows cols r).flatMap fun row => (lawMatrices rs (leftOf cols row)).map fun rest => row :: rest := rfl
theorem leftOf_len (cols row : List Int) : (leftOf cols row).length = cols.length := by
  unfold leftOf
  rw [List.length_map, List.length_range]
theorem leftOf_bd {cols row : List Int} {r : Int} (h : row ∈ lawRows cols r) (hc : ∀ z ∈ cols, 0 ≤ z ∧ z ≤ 5) : ∀ z ∈ leftOf cols row, 0 ≤ z ∧ z ≤ 5 := fun z hz => by
  obtain ⟨j, hj, rfl⟩ := List.mem_map.mp hz
  have hj' := List.mem_range.mp hj
  have h1 := (lawRows_mem cols r row h).2 j hj'
  have h2 := hc _ (List.mem_of_getElem? (getSome 0 hj'))
  omega
theorem lawMatrices_mem : ∀ (rs cols : List Int) (m : List (List Int)), m ∈ lawMatrices rs cols → m.length = rs.length
  | [], cols, m, h => by
    unfold lawMatrices at h
    split at h
    · rw [List.mem_singleton.mp h]
      rfl
    · exact absurd h List.not_mem_nil
  | r :: rs, cols, m, h => by
    rw [lawMatrices_cons] at h
    obtain ⟨row, _, h⟩ := List.mem_flatMap.mp h
    obtain ⟨s, hs, rfl⟩ := List.mem_map.mp h
    rw [List.length_cons, List.length_cons, lawMatrices_mem rs _ s hs]
section
variable {P : Program} {w : World} {K : PySem.W.Frag} {mg : Str → Option Value} {base : Heap}
abbrev s_law_matrices : Stmt := topS 33
abbrev n_law_matrices : List Str := ["_law_rows_here", "_law_columns", "_law_out", "_law_row", "_law_left", "_law_rest", "_law_j"]
theorem sc_law_matrices : FnScope n_law_matrices ["_law_rows_here", "_law_columns"] (defScope s_law_matrices) := ⟨rfl, rfl, rfl, by decide +kernel, rfl, by decide +kernel, by decide +kernel⟩
def spLM (K : PySem.W.Frag) (d : Nat) : Sp := fun vs H Q _ => ∃ (x y : V) (rs cs : List Int), vs = [x, y] ∧ IsP K H x rs ∧ IsP K H y cs ∧ rs.length < d ∧ rs.length ≤ 100 ∧ cs.length ≤ 3 ∧ (∀ z ∈ rs, 0 ≤ z ∧ z ≤ 5) ∧ (∀ z ∈ cs, 0 ≤ z ∧ z ≤ 5) ∧ (lawMatrices rs cs).length ≤ 100000 ∧ ∀ r H', Same H H' → NewL (IsF K) H H' r (lawMatrices rs cs) → Q r H'
theorem ok_law_matrices {k d : Nat} (F : Dfn K mg "_law_matrices" s_law_matrices ["_law_rows_here", "_law_columns"] []) (c_law_matrices : Can P w K mg base k "_law_matrices" (spLM K d) []) (c_law_rows : Can P w K mg base k "_law_rows" (spLR K 10) []) (m_len : mg "len" = none) (m_max : mg "max" = none) (m_list : mg "list" = none) (m_tuple : mg "tuple" = none) (m_range : mg "range" = none) : Can P w K mg base (k + 1) "_law_matrices" (spLM K (d + 1)) [] := by
  refine F.can sc_law_matrices (fun vs H Q E h => ?_) (fun f cdv A outer_ s H vs Q E hr h => ?_)
  · obtain ⟨x, y, rs, cs, rfl, _⟩ := h
    rfl
  obtain ⟨x, y, rs, cs, rfl, ⟨a, rfl, hA⟩, hCs, hd, hl, hcl, hrs, hcs, hz, q⟩ := h
  have hCs' := hCs
  obtain ⟨b, rfl, hB⟩ := hCs
  refine ⟨_, (pss_cons (ps_if (pt_cmpR op_eq (pe_callB (lenK (K := K) rfl) (by rfl) m_len (by decide +kernel) (pa_cons (pv 0) pa_nil)) pe_int (nomark _)) (pss_one (ps_ret (pe_ifExp (pt_cmpR op_eq (pe_callB (cr_max rfl) (by rfl) m_max (by decide +kernel) (pa_cons (pe_op op_cat (pe_callTy (listK (K := K) rfl) (by rfl) m_list (by decide +kernel) (pa_cons (pv 1) pa_nil)) (pe_lst (pa_cons pe_int pa_nil))) pa_nil)) pe_int (nomark _)) (pe_lst (pa_cons (pe_tup pa_nil) pa_nil)) (pe_lst pa_nil)))) pss_nil)
      (pss_cons (ps_set (i := 2) sc_law_matrices.nd rfl (.inl rfl) (pe_lst pa_nil))
      (pss_cons (ps_for PassesOwn.never rfl (pi_list (pe_can c_law_rows hr (Nat.le_refl _) (by rfl) (pa_cons (pe_ix (ixT (K := K) rfl) (pv 0) pe_int (fun _ _ => rfl)) (pa_cons (pv 1) pa_nil)))) (pg_name (i := 3) sc_law_matrices.nd rfl (.inr rfl))
      (pss_cons (ps_set (i := 4) sc_law_matrices.nd rfl (.inl rfl) (pe_callTy (tupleK (K := K) rfl) (by rfl) m_tuple (by decide +kernel) (pa_cons (pe_lc (own := [("_law_j", 6)]) (g := gName 6) (tt := tYes) (by rfl) sc_law_matrices.nd (pi_range1 (by rfl) m_range (pa_cons (pe_callB (lenK (K := K) rfl) (by rfl) m_len (by decide +kernel) (pa_cons (pv 1) pa_nil)) pa_nil)) (blkOk_by (own := [("_law_j", 6)]) (N := n_law_matrices) (sc := defScope s_law_matrices) (by decide +kernel)) (fun _ _ _ _ _ => (pg_name (i := 6) sc_law_matrices.nd rfl (.inl rfl))) (fun _ _ _ _ _ => pts_nil) (fun _ _ _ _ _ => (pe_op op_sub (pe_ix (ixT (K := K) rfl) (pv 1) (pv 6) (fun _ _ => rfl)) (pe_ix (ixT (K := K) rfl) (pv 3) (pv 6) (fun _ _ => rfl))))) pa_nil)))
      (pss_one (ps_for PassesOwn.never rfl (pi_list (pe_can c_law_matrices hr (Nat.le_refl _) (by rfl) (pa_cons (pe_slice (slTK (K := K) rfl) (pv 0) (po_some pe_int) po_none) (pa_cons (pv 4) pa_nil)))) (pg_name (i := 5) sc_law_matrices.nd rfl (.inl rfl))
      (pss_one (ps_expr (pe_bm PySem.F.plainAttrs_list PySem.F.slot_list_append PySem.F.type_list_append mt_append (pv 2) (pa_cons (pe_op op_catT (pe_tup (pa_cons (pv 3) pa_nil)) (pv 5)) pa_nil))))))))
      (pss_one (ps_ret (pv 2)))))), ?_⟩
  refine ⟨_, rfl, a, _, rfl, .inr hA, rfl, _, rfl, ite2 (fun c => ?_) (fun c => ?_)⟩
  · have c1 : V.int (((rs.map V.int).length : Nat) : Int) = V.int 0 := of_decide_eq_true c
    have c2 := V.int.inj c1
    rw [List.length_map] at c2
    have e0 : rs = [] := List.length_eq_zero_iff.mp (by omega)
    subst e0
    refine ⟨_, rfl, b, _, rfl, .inr hB, fun l hl' => ⟨by show 1 ≤ sizeLine; decide, fun l2 hl2 => ?_⟩⟩
    have s1 := same_new hl' (.lst (cs.map V.int))
    have s2 := same_new hl2 (.lst [V.int 0])
    refine ⟨l, l2, _, _, rfl, rfl, s2 _ _ upd_same, upd_same, ?_, fun l3 hl3 => ?_⟩
    · rw [List.length_map, List.length_singleton]
      exact sz' (by omega)
    have s3 := same_new hl3 (.lst (cs.map V.int ++ [V.int 0]))
    have s4 := s1.trans (s2.trans s3)
    refine ⟨l3, cs ++ [0], rfl, SqL.of ?_, by simp, fun m hm hmax => ?_⟩
    · rw [upd_same, List.map_append]
      rfl
    generalize upd (upd (upd H l (HO.lst (List.map V.int cs))) l2 (HO.lst [V.int 0])) l3 (HO.lst (List.map V.int cs ++ [V.int 0])) = H4 at s4
    obtain ⟨g1, g2⟩ := maxI_spec (l := cs ++ [0]) (by simp)
    have em : m = maxI (cs ++ [0]) := Int.le_antisymm (g2 m hm) (hmax _ g1)
    refine ⟨rfl, _, rfl, ite2 (fun c => ?_) (fun c => ?_)⟩
    · have c1 : m = 0 := V.int.inj (of_decide_eq_true c)
      have e : lawMatrices [] cs = [[]] := by unfold lawMatrices; rw [if_pos (by rw [← em]; exact c1)]
      rw [e] at q
      refine ⟨by decide, fun a ha => ⟨by show 1 ≤ sizeLine; decide, fun b hb => ?_⟩⟩
      have g := same_new (H := upd H4 a (.tup [])) hb (.lst [.ref a])
      exact q _ _ (s4.trans ((same_new ha _).trans g)) ⟨b, _, rfl, s4.free ((same_new ha _).free hb), upd_same, .cons ⟨a, [], rfl, SqT.of (g _ _ upd_same), .nil⟩ .nil⟩
    · have c1 : m ≠ 0 := fun e => c (by rw [e]; exact decide_eq_true rfl)
      have e : lawMatrices [] cs = [] := by unfold lawMatrices; rw [if_neg (by rw [← em]; exact c1)]
      rw [e] at q
      exact ⟨by decide, fun b hb => q _ _ (s4.trans (same_new hb _)) ⟨b, _, rfl, s4.free hb, upd_same, .nil⟩⟩
  · have hne : rs ≠ [] := fun e => c (by rw [e]; exact decide_eq_true rfl)
    cases rs with
    | nil => exact absurd rfl hne
    | cons r0 rs =>
    have hr0 := hrs r0 (List.mem_cons_self ..)
    rw [List.length_cons] at hd hl
    obtain ⟨rws, erw⟩ : ∃ rws, rws = lawRows cs r0 := ⟨_, rfl⟩
    have hrwl : rws.length ≤ 216 := by
      rw [erw]
      refine Nat.le_trans (lawRows_len cs r0 hr0.2) ?_
      exact Nat.le_trans (Nat.pow_le_pow_right (by decide) hcl) (by decide)
    rw [lawMatrices_cons, ← erw, ← flat_gd rws [] (fun row => (lawMatrices rs (leftOf cs row)).map fun rest => row :: rest)] at hz q
    refine ⟨by decide, fun o ho => ?_⟩
    have s1 : Same H (upd H o (.lst [])) := same_new ho _
    refine ⟨_, rfl, a, _, _, _, rfl, rfl, sameT s1 hA, atI_nat (j := 0) rfl, _, rfl, .ref b, cs, r0, rfl, hCs'.same s1, by omega, by omega, by omega, by omega, fun z hz => ?_, by rw [← erw]; omega, fun r H1 s2 hr1 => ?_⟩
    · have := hcs z hz
      omega
    rw [← erw] at hr1
    obtain ⟨a1, vs1, rfl, n1, h1, p1⟩ := hr1
    have hl1 := pLen p1
    have ho1 := s2 _ _ upd_same
    have n1o : a1 ≠ o := ne_of_none upd_same n1 |>.symm
    have s12 : Same H H1 := s1.trans s2
    refine ⟨a1, rfl, ⟨_, SqL.of h1⟩, ?_⟩
    refine for_acc (walk_list (xs := vs1)) (R := IsF K) (D := o) (fun σ => ∃ v3 v4 v5 v6, σ = [some (.ref a), some (.ref b), some (.ref o), v3, v4, v5, v6]) [] (fun i => (fun row => (lawMatrices rs (leftOf cs row)).map fun rest => row :: rest) (rws.getD i [])) ⟨_, _, _, _, rfl⟩ ho1 .nil (fun H2 s3 => s3.seqL n1o (SqL.of h1)) (fun i x σ H2 H3 acc N hi' hsg s3 hy hacc hp kk => ?_) (fun σ H2 acc hsg s3 hacc hp => ?_)
    · obtain ⟨rfl, hx⟩ := hy
      obtain ⟨v3, v4, v5, v6, rfl⟩ := hsg
      have s2' : Same H H3 := ((SamB.of s2).trans s3).same ho s1
      obtain ⟨row, hrow, hrv⟩ := pAt p1 hx
      have hrm : row ∈ lawRows cs r0 := by rw [← erw]; exact List.mem_of_getElem? hrow
      obtain ⟨hrl, hrb⟩ := lawRows_mem cs r0 row hrm
      have hrv2 := (stayP K).samB s3 ho1 hacc hrv
      have hrv3 := hrv2
      obtain ⟨rb, rfl, hRb⟩ := hrv2
      have hz1 := flat_at _ (fun i => (fun row => (lawMatrices rs (leftOf cs row)).map fun rest => row :: rest) (rws.getD i [])) i (show i < rws.length by omega)
      rw [getDs hrow] at hz1 kk
      have hz2 := Nat.le_trans hz1 hz
      rw [List.length_map] at hz2
      have hacl := pLen hp
      rw [List.nil_append] at hacl
      have hB3 := sameT s2' hB
      have hcm : (cs.map V.int).length = cs.length := List.length_map _
      refine ⟨_, rfl, b, _, rfl, .inr hB3, _, rfl, by rw [hcm]; omega, by rw [hcm]; omega, fun D hD => ?_⟩
      rw [hcm]
      refine lc_pure (walk_r0 (n := cs.length)) IsI stayI (fun j => some (cs.getD j 0 - row.getD j 0)) hD (by omega) (fun _ _ => trivial) (fun j x H5 H6 K1 K2 hj s5 y k1 k2 => ?_) (fun H5 acc5 s5 hacc5 hp5 => ?_)
      · obtain ⟨rfl, rfl⟩ := y
        refine ⟨rfl, tyes ⟨_, rfl, _, rfl, b, _, _, _, rfl, rfl, sameT s5 hB3, atI_nat (getI hj), _, rfl, _, rfl, rb, _, _, _, rfl, rfl, sameT s5 hRb, atI_nat (getI (by omega)), _, _, rfl, rfl, ?_⟩⟩
        exact k1 _ _ _ (Same.refl _) rfl rfl
      · rw [fm_map] at hp5
        have hp5' : Paired (IsI H5) acc5 (leftOf cs row) := hp5
        rw [pIntMap hp5'] at hacc5
        refine ⟨D, _, rfl, .inl ⟨SqL.of hacc5, fun lt hlt => ?_⟩⟩
        have s6 := s5.trans (same_new hlt (.tup ((leftOf cs row).map V.int)))
        have hLt : SqT K (upd H5 lt (.tup ((leftOf cs row).map V.int))) lt ((leftOf cs row).map V.int) := SqT.of upd_same
        generalize upd H5 lt (.tup ((leftOf cs row).map V.int)) = H6 at s6 hLt
        refine ⟨_, rfl, _, rfl, a, _, rfl, sameT (s2'.trans s6) hA, fun hw => ?_, fun _ p2 hp2 => ?_⟩
        · have := hw.1
          rw [six_one (by rw [List.length_map, List.length_cons]; omega)] at this
          cases this
        rw [cut_one, List.map_cons, List.drop_succ_cons, List.drop_zero]
        have s7 := same_new hp2 (.tup (rs.map V.int))
        refine ⟨_, rfl, .ref p2, .ref lt, rs, leftOf cs row, rfl, ⟨p2, rfl, SqT.of upd_same⟩, ⟨lt, rfl, sameT s7 hLt⟩, by omega, by omega, by rw [leftOf_len]; exact hcl, fun z hz => hrs z (List.mem_cons_of_mem _ hz), leftOf_bd hrm hcs, by omega, fun z H7 s8 hz3 => ?_⟩
        have s9 := s6.trans (s7.trans s8)
        obtain ⟨a3, vs3, rfl, n3', h3, p3⟩ := hz3
        have n3 : H3 a3 = none := s6.free (s7.free n3')
        have hl3 := pLen p3
        have n30 : a3 ≠ o := ne_of_none hacc n3 |>.symm
        refine ⟨a3, rfl, ⟨_, SqL.of h3⟩, ?_⟩
        refine for_acc (walk_list (xs := vs3)) (R := IsF K) (D := o) (fun σ => ∃ v5 v6, σ = [some (.ref a), some (.ref b), some (.ref o), some (.ref rb), some (.ref lt), v5, v6]) _ (fun j => [row :: (lawMatrices rs (leftOf cs row)).getD j []]) ⟨_, _, rfl⟩ (s9 _ _ hacc) ((stayF K).all s9 hp) (fun H4 s7 => s7.seqL n30 (SqL.of h3)) (fun j x σ H8 H9 acc2 N2 hj hsg s10 hy hacc2 hp2 kk2 => ?_) (fun σ H8 acc2 hsg s10 hacc2 hp2 => ?_)
        · obtain ⟨rfl, hx⟩ := hy
          obtain ⟨v5, v6, rfl⟩ := hsg
          obtain ⟨rest, hrest, hrsv⟩ := pAt p3 hx
          have hrsl := lawMatrices_mem rs _ rest (List.mem_of_getElem? hrest)
          have hrs2 := (stayF K).samB s10 (s9 _ _ hacc) hacc2 hrsv
          obtain ⟨a4, vs4, rfl, h4, p4⟩ := hrs2
          have hrow2 := (stayP K).samB s10 (s9 _ _ hacc) hacc2 (hrv3.same s9)
          have hacl2 := pLen hp2
          rw [List.length_append, List.nil_append, flat_sing_len] at hacl2
          refine ⟨_, rfl, .inl ⟨rfl, _, SqL.of hacc2⟩, _, rfl, by show 1 ≤ sizeLine; decide, fun a5 ha5 => ⟨_, rfl, ?_⟩⟩
          refine cat_first (stayP K) ha5 hrow2 h4 p4 (by omega) fun y H11 s11 hy => ⟨o, acc2, y, rfl, rfl, s11 _ _ hacc2, sz (by omega), ?_⟩
          refine kk2 _ _ (acc2 ++ [y]) ⟨_, _, rfl⟩ (SamB.of s11).upd upd_same ?_
          refine pApp ((stayF K).allL (s11 _ _ hacc2) ((stayF K).all s11 hp2)) (.cons ((stayF K).lst (s11 _ _ hacc2) ?_) .nil)
          rw [getDs hrest]
          exact hy
        · obtain ⟨v5, v6, rfl⟩ := hsg
          refine kk _ _ acc2 ⟨_, _, _, _, rfl⟩ ((SamB.of s9).trans s10) hacc2 ?_
          rw [hl3, flat_one (lawMatrices rs (leftOf cs row)) [] (fun rest => row :: rest)] at hp2
          exact hp2
    · obtain ⟨v3, v4, v5, v6, rfl⟩ := hsg
      rw [List.nil_append, hl1] at hp
      exact ⟨_, rfl, q _ _ (((SamB.of s2).trans s3).same ho s1) ⟨o, acc, rfl, ho, hacc, hp⟩⟩
theorem all_law_matrices {k : Nat} (F : Dfn K mg "_law_matrices" s_law_matrices ["_law_rows_here", "_law_columns"] []) (c_law_rows : Can P w K mg base k "_law_rows" (spLR K 10) []) (m_len : mg "len" = none) (m_max : mg "max" = none) (m_list : mg "list" = none) (m_tuple : mg "tuple" = none) (m_range : mg "range" = none) : ∀ n, Can P w K mg base (k + n) "_law_matrices" (spLM K n) []
  | 0 => (none_left F fun vs H Q E h => by
    obtain ⟨_, _, _, _, _, _, _, h, _⟩ := h
    exact absurd h (Nat.not_lt_zero _)).mono (Nat.zero_le _)
  | n + 1 => ok_law_matrices F (all_law_matrices F c_law_rows m_len m_max m_list m_tuple m_range n) (c_law_rows.mono (Nat.le_add_right _ _)) m_len m_max m_list m_tuple m_range
end
end K19

namespace K19
open PySem PySem.Spec PyProof.Rows L2
/-! ### what the plain side must give for a pair of contents -/
def GoodC (N : Nat) (c : List Int) : Prop := c ≠ [] ∧ c.length ≤ 3 ∧ (∀ z ∈ c, 0 ≤ z) ∧ c.sum = N
def matO (h w : Nat) (p q : List (List Int)) : List (List Int) := (matrixOf p q h w).getD []
structure SmallOk (N : Nat) (r c : List Int) : Prop where
  st : ∀ s ∈ parts N, stepsOk c.reverse [[s]] = true ∧ stepsOk r.reverse [[s]] = true
  smp : ∀ s ∈ parts N, ∀ p ∈ fillingsM s c, Sm p
  smq : ∀ s ∈ parts N, ∀ q ∈ fillingsM s r, Sm q
  fnd : ∃ found, foundM N r c = some found ∧ isort le2 found = isort le2 (lawMatrices r c) ∧ found.length ≤ 100000
structure PairOk (N : Nat) (r c : List Int) : Prop where
  cnt : ∀ s ∈ parts N, countOk s r [([], 1)] = true ∧ countOk s c [([], 1)] = true ∧ -(2 ^ 64) < countF s r ∧ countF s r < 2 ^ 64
  tot : total N r c = ((lawMatrices r c).length : Int)
  mats : (lawMatrices r c).length ≤ 100000
  pts : (parts N).length ≤ 100000
  small : N ≤ 3 → SmallOk N r c
theorem mem_le_sum : ∀ (l : List Int), (∀ z ∈ l, 0 ≤ z) → 0 ≤ l.sum ∧ ∀ z ∈ l, z ≤ l.sum
  | [], _ => ⟨Int.le_refl _, fun _ h => absurd h List.not_mem_nil⟩
  | x :: r, h => by
    obtain ⟨h1, h2⟩ := mem_le_sum r fun z hz => h z (List.mem_cons_of_mem _ hz)
    have h0 := h x (List.mem_cons_self ..)
    rw [List.sum_cons]
    refine ⟨by omega, fun z hz => ?_⟩
    rcases List.mem_cons.mp hz with e | e
    · rw [e]
      omega
    · have := h2 z e
      omega
theorem mapM_id {α : Type} : ∀ (l : List (Option α)) (ys : List α), l.mapM id = some ys → l = ys.map some
  | [], ys, h => by
    have : some [] = some ys := h
    rw [← Option.some.inj this]
    rfl
  | x :: r, ys, h => by
    rw [List.mapM_cons] at h
    cases x with
    | none => cases h
    | some a =>
      cases hr : r.mapM id with
      | none =>
        simp [hr] at h
      | some zs =>
        simp [hr] at h
        rw [← h, List.map_cons, mapM_id r zs hr]
theorem found_eq {N : Nat} {r c : List Int} {found : List (List (List Int))} (h : foundM N r c = some found) :
    found = (parts N).flatMap (fun s => (fillingsM s c).flatMap fun p => (fillingsM s r).map fun q => matO r.length c.length p q) ∧
    ∀ s ∈ parts N, ∀ p ∈ fillingsM s c, ∀ q ∈ fillingsM s r, matrixOf p q r.length c.length = some (matO r.length c.length p q) := by
  have e := mapM_id _ _ h
  constructor
  · have e2 := congrArg (List.map fun o : Option (List (List Int)) => o.getD []) e
    rw [List.map_map, List.map_flatMap] at e2
    have e3 : (found.map ((fun o : Option (List (List Int)) => o.getD []) ∘ some)) = found := by
      have : ((fun o : Option (List (List Int)) => o.getD []) ∘ some) = id := rfl
      rw [this, List.map_id]
    rw [e3] at e2
    rw [← e2]
    congr 1
    funext s
    rw [List.map_flatMap]
    congr 1
    funext p
    rw [List.map_map]
    rfl
  · intro s hs p hp q hq
    have hm : matrixOf p q r.length c.length ∈ ((parts N).flatMap fun s => (fillingsM s c).flatMap fun p => (fillingsM s r).map fun q => matrixOf p q r.length c.length) :=
      List.mem_flatMap.mpr ⟨s, hs, List.mem_flatMap.mpr ⟨p, hp, List.mem_map.mpr ⟨q, hq, rfl⟩⟩⟩
    rw [e] at hm
    obtain ⟨m, _, hm⟩ := List.mem_map.mp hm
    unfold matO
    rw [← hm]
    rfl
theorem layF : ∀ rs : List (List (List Int)), PyData.canLayAll0 (rs.map encF) = true
  | [] => rfl
  | f :: r => by
    rw [List.map_cons]
    unfold PyData.canLayAll0
    rw [layF r, Bool.and_true]
    have h : ∀ f : List (List Int), PyData.canLayAll0 (f.map encP) = true := by
      intro f
      induction f with
      | nil => rfl
      | cons p f ih =>
        rw [List.map_cons]
        unfold PyData.canLayAll0
        rw [ih, Bool.and_true]
        exact layP p
    exact h f
theorem shapedL (rs : List (List (List Int))) : SeqAt.shaped (.list (rs.map encF)) = true := by
  unfold SeqAt.shaped
  rw [Bool.and_eq_true, decide_eq_true_eq]
  refine ⟨layF rs, ?_⟩
  have h : ∀ rs : List (List (List Int)), PyData.depthAll (rs.map encF) ≤ 2 := by
    intro rs
    induction rs with
    | nil => simp [PyData.depthAll]
    | cons f r ih =>
      rw [List.map_cons]
      unfold PyData.depthAll
      have := depthF f
      omega
  unfold PyData.depth
  have := h rs
  omega
end K19

namespace K19
open PySem PySem.Spec PyProof.Rows L2
section
variable {P : Program} {w : World} {K : PySem.W.Frag} {mg : Str → Option Value} {base : Heap}
abbrev s_law : Stmt := topS 34
abbrev n_law : List Str := ["_law_script", "_law_state_here", "_law_n", "_law_contents", "_law_turn", "_law_due", "_law_total", "_law_shape", "_law_found", "_law_row", "_law_k", "_law_rows_here", "_law_columns", "_law_p", "_law_q"]
theorem sc_law : FnScope n_law ["_law_script"] (defScope s_law) := ⟨rfl, rfl, rfl, by decide +kernel, rfl, by decide +kernel, by decide +kernel⟩
def spLaw (K : PySem.W.Frag) : Sp := fun vs H Q _ => ∃ (a : Addr) (ns : List Int), vs = [.ref a] ∧ SqL K H a (ns.map V.int) ∧ ns.length ≤ 63 ∧ ∀ H', Q (.bl true) H'
structure DS (K : PySem.W.Frag) (N : Nat) (H : Hp) (l C : Addr) (acc : List V) (cons : List (List Int)) : Prop where
  ne : l ≠ C
  st : ∃ s t, H l = some (.lst [.int s, .int t])
  at_ : H C = some (.lst acc)
  pr : Paired (IsP K H) acc cons
  ok : ∀ c ∈ cons, GoodC N c
theorem DS.take {N : Nat} {H : Hp} {l C : Addr} {acc : List V} {cons : List (List Int)} (d : DS K N H l C acc cons) (s' t' : Int) : DS K N (upd H l (.lst [.int s', .int t'])) l C acc cons := by
  obtain ⟨s, t, h⟩ := d.st
  exact ⟨d.ne, ⟨s', t', upd_same⟩, by rw [upd_ne d.ne.symm]; exact d.at_, (stayP K).allL h d.pr, d.ok⟩
theorem DS.same {N : Nat} {H H' : Hp} {l C : Addr} {acc : List V} {cons : List (List Int)} (d : DS K N H l C acc cons) (e : Same H H') : DS K N H' l C acc cons := by
  obtain ⟨s, t, h⟩ := d.st
  exact ⟨d.ne, ⟨s, t, e _ _ h⟩, e _ _ d.at_, (stayP K).all e d.pr, d.ok⟩
theorem Dfn.law {P : Program} {w : World} {K : PySem.W.Frag} {mg : Str → Option Value} {base : Heap} {k : Nat} {x : Str} {st : Stmt} {N ps : List Str} {sp : Sp} {dvs : List V} {fa : Addr} {fda : FuncData} {oca : Value} {oda : Option Addr} {osla : Array (Option Value)} (F : Dfn K mg x st ps dvs) (hma : mg x = some (.ref fa)) (lka : K.lookup fa = some ⟨oca, oda, .func fda, osla⟩) (S : FnScope N ps (defScope st)) (len : ∀ vs H Q E, sp vs H Q E → vs.length = ps.length)
    (hbody : ∀ (f : Addr) (cdv : Value) (A : Around) (outer : List Env) (s : Shared) (H : Hp) (vs : List V) (Q : VK) (E : XK), Room k (A.deeper (envOfC x (defScope st) s.heap.objs.size f cdv)) → sp vs H Q E →
      ∃ t, PSs (cxOf CX0 P w K mg base N x (defScope st) f cdv A outer s H E).nox (defBody st) t ∧ t { nx := fun _ H' => Q .non H', rt := Q } (start N vs) H) : FnOk P w K mg base CX0 (k + 1) fa fda ps sp := by
  obtain ⟨f, fd, ds, oc, od, dV, kV, doc, pm, an, cdv, ct, osl, rfl, lk, hcd, kp, hm, b, d⟩ := F.ex
  obtain rfl : f = fa := by
    rw [hma] at hm
    cases hm
    rfl
  obtain rfl : PySem.W.fnOf x x (defArgs st) (defBody st) (defScope st) dV kV doc pm an cdv ct = fda := by
    rw [lka] at lk
    cases lk
    rfl
  refine fn_of lk hcd S len fun A outer s H vs Q E hr hsp => ?_
  obtain ⟨t, h, q⟩ := hbody f cdv A outer s H vs Q E hr hsp
  exact ⟨t, h.nox, q⟩
theorem ok_law {k : Nat} {e e2 : Addr} (F : Dfn K mg "law" s_law ["_law_script"] []) (hall : ∀ (N : Nat) (r c : List Int), N < 6 → GoodC N r → GoodC N c → PairOk N r c)
    (c_law_state : Can P w K mg base k "_law_state" (spState K) []) (c_law_take : Can P w K mg base k "_law_take" (spTake K) []) (c_law_matrices : Can P w K mg base k "_law_matrices" (spLM K 10) [])
    (c_partitions : Can P w K mg base k "partitions" (spPartitions K) []) (c_count_fillings : Can P w K mg base k "count_fillings" (spCount K) [.ref e]) (c_fillings : Can P w K mg base k "fillings" (spFillings K) [.ref e2]) (c_matrix_of_pair : Can P w K mg base k "matrix_of_pair" (spMatrix K) [])
    (he : ∀ H, IsP K H (.ref e) []) (he2 : ∀ H, IsP K H (.ref e2) []) (m_range : mg "range" = none) (m_sum : mg "sum" = none) (m_tuple : mg "tuple" = none) (m_len : mg "len" = none) (m_sorted : mg "sorted" = none) {fa : Addr} {fda : FuncData} {oca : Value} {oda : Option Addr} {osla : Array (Option Value)} (hma : mg "law" = some (.ref fa)) (lka : K.lookup fa = some ⟨oca, oda, .func fda, osla⟩) :
    FnOk P w K mg base CX0 (k + 1) fa fda ["_law_script"] (spLaw K) := by
  refine F.law hma lka sc_law (fun vs H Q E h => ?_) (fun f cdv A outer_ s H vs Q E hr h => ?_)
  · obtain ⟨a, ns, rfl, _⟩ := h
    rfl
  obtain ⟨a, ns, rfl, hS, _, qq⟩ := h
  refine ⟨_, (pss_cons (ps_set (i := 1) sc_law.nd rfl (.inl rfl) (pe_can c_law_state hr (Nat.le_refl _) (by rfl) (pa_cons (pv 0) pa_nil)))
      (pss_cons (ps_set (i := 2) sc_law.nd rfl (.inl rfl) (pe_can c_law_take hr (Nat.le_refl _) (by rfl) (pa_cons (pv 1) (pa_cons pe_int pa_nil))))
      (pss_cons (ps_set (i := 3) sc_law.nd rfl (.inl rfl) (pe_lst pa_nil))
      (pss_cons (ps_for PassesOwn.never rfl (pi_range1 (by rfl) m_range (pa_cons pe_int pa_nil)) (pg_name (i := 4) sc_law.nd rfl (.inl rfl))
      (pss_cons (ps_set (i := 9) sc_law.nd rfl (.inl rfl) (pe_lst pa_nil))
      (pss_cons (ps_for PassesOwn.never rfl (pi_range1 (by rfl) m_range (pa_cons (pe_can c_law_take hr (Nat.le_refl _) (by rfl) (pa_cons (pv 1) (pa_cons pe_int pa_nil))) pa_nil)) (pg_name (i := 10) sc_law.nd rfl (.inl rfl))
      (pss_one (ps_expr (pe_bm PySem.F.plainAttrs_list PySem.F.slot_list_append PySem.F.type_list_append mt_append (pv 9) (pa_cons (pe_can c_law_take hr (Nat.le_refl _) (by rfl) (pa_cons (pv 1) (pa_cons (pe_op op_sub (pe_op op_add pe_int (pv 2)) (pe_callB (cr_sum rfl) (by rfl) m_sum (by decide +kernel) (pa_cons (pv 9) pa_nil))) pa_nil))) pa_nil)))))
      (pss_one (ps_expr (pe_bm PySem.F.plainAttrs_list PySem.F.slot_list_append PySem.F.type_list_append mt_append (pv 3) (pa_cons (pe_callTy (tupleK (K := K) rfl) (by rfl) m_tuple (by decide +kernel) (pa_cons (pe_op op_cat (pv 9) (pe_lst (pa_cons (pe_op op_sub (pv 2) (pe_callB (cr_sum rfl) (by rfl) m_sum (by decide +kernel) (pa_cons (pv 9) pa_nil))) pa_nil))) pa_nil)) pa_nil)))))))
      (pss_cons (ps_asg (pv 3) (pg_unl (by rfl) (pgs_cons (pg_name (i := 11) sc_law.nd rfl (.inl rfl)) (pgs_cons (pg_name (i := 12) sc_law.nd rfl (.inl rfl)) pgs_nil))))
      (pss_cons (ps_set (i := 5) sc_law.nd rfl (.inl rfl) (pe_can c_law_matrices hr (Nat.le_refl _) (by rfl) (pa_cons (pv 11) (pa_cons (pv 12) pa_nil))))
      (pss_cons (ps_set (i := 6) sc_law.nd rfl (.inl rfl) pe_int)
      (pss_cons (ps_for PassesOwn.never rfl (pi_tup (pe_can c_partitions hr (Nat.le_refl _) (by rfl) (pa_cons (pv 2) pa_nil))) (pg_name (i := 7) sc_law.nd rfl (.inl rfl))
      (pss_one (ps_set (i := 6) sc_law.nd rfl (.inl rfl) (pe_op op_add (pv 6) (pe_op op_mul (pe_can c_count_fillings hr (Nat.le_refl _) (by rfl) (pa_cons (pv 7) (pa_cons (pv 11) pa_nil))) (pe_can c_count_fillings hr (Nat.le_refl _) (by rfl) (pa_cons (pv 7) (pa_cons (pv 12) pa_nil))))))))
      (pss_cons (ps_if (pt_cmpR op_ne (pv 6) (pe_callB (lenK (K := K) rfl) (by rfl) m_len (by decide +kernel) (pa_cons (pv 5) pa_nil)) (nomark _)) (pss_one (ps_ret pe_bl)) pss_nil)
      (pss_cons (ps_if (pt_cmpR op_gt (pv 2) pe_int (nomark _)) (pss_one (ps_ret pe_bl)) pss_nil)
      (pss_cons (ps_set (i := 8) sc_law.nd rfl (.inl rfl) (pe_lst pa_nil))
      (pss_cons (ps_for PassesOwn.never rfl (pi_tup (pe_can c_partitions hr (Nat.le_refl _) (by rfl) (pa_cons (pv 2) pa_nil))) (pg_name (i := 7) sc_law.nd rfl (.inl rfl))
      (pss_one (ps_for PassesOwn.never rfl (pi_tup (pe_can c_fillings hr (Nat.le_refl _) (by rfl) (pa_cons (pv 7) (pa_cons (pv 12) pa_nil)))) (pg_name (i := 13) sc_law.nd rfl (.inl rfl))
      (pss_one (ps_for PassesOwn.never rfl (pi_tup (pe_can c_fillings hr (Nat.le_refl _) (by rfl) (pa_cons (pv 7) (pa_cons (pv 11) pa_nil)))) (pg_name (i := 14) sc_law.nd rfl (.inl rfl))
      (pss_one (ps_expr (pe_bm PySem.F.plainAttrs_list PySem.F.slot_list_append PySem.F.type_list_append mt_append (pv 8) (pa_cons (pe_can c_matrix_of_pair hr (Nat.le_refl _) (by rfl) (pa_cons (pv 13) (pa_cons (pv 14) (pa_cons (pe_callB (lenK (K := K) rfl) (by rfl) m_len (by decide +kernel) (pa_cons (pv 11) pa_nil)) (pa_cons (pe_callB (lenK (K := K) rfl) (by rfl) m_len (by decide +kernel) (pa_cons (pv 12) pa_nil)) pa_nil))))) pa_nil)))))))))
      (pss_one (ps_ret (pe_cmpR (eqDK (K := K) rfl hr.units) (pe_callB (cr_sortD ordF (R := IsF K) (fun _ _ _ h => h.dp) hr.units) (by rfl) m_sorted (by decide +kernel) (pa_cons (pv 8) pa_nil)) (pe_callB (cr_sortD ordF (R := IsF K) (fun _ _ _ h => h.dp) hr.units) (by rfl) m_sorted (by decide +kernel) (pa_cons (pv 5) pa_nil)) (nomark _)))))))))))))))), ?_⟩
  refine ⟨_, rfl, a, ns, rfl, hS, fun l s t H1 s1 hl => ?_⟩
  refine ⟨_, rfl, l, 6, s, t, rfl, hl, by decide, by decide, fun n s' t' hn0 hn6 => ?_⟩
  obtain ⟨N, rfl⟩ : ∃ N : Nat, n = (N : Int) := ⟨n.toNat, by omega⟩
  have hN : N < 6 := by omega
  have hl2 : upd H1 l (.lst [.int s', .int t']) l = some (.lst [.int s', .int t']) := upd_same
  show gName 2 (V.int (N : Int)) _ (upd H1 l (.lst [.int s', .int t'])) _
  generalize upd H1 l (.lst [.int s', .int t']) = H2 at hl2
  refine ⟨by decide, fun C hC => ?_⟩
  have hlC : l ≠ C := ne_of_none hl2 hC
  have d0 : DS K N (upd H2 C (.lst [])) l C [] [] := ⟨hlC, ⟨s', t', by rw [upd_ne hlC]; exact hl2⟩, upd_same, .nil, fun _ h => absurd h List.not_mem_nil⟩
  refine ⟨_, rfl, by decide, by decide, ?_⟩
  refine for_it (walk_r0 (n := 2)) (fun i σ H' => ∃ acc cons v4 v5 v6 v7 v8 v9 v10 v11 v12 v13 v14, σ = [some (.ref a), some (.ref l), some (.int (N : Nat)), some (.ref C), v4, v5, v6, v7, v8, v9, v10, v11, v12, v13, v14] ∧ DS K N H' l C acc cons ∧ cons.length = i) ⟨[], [], _, _, _, _, _, _, _, _, _, _, _, rfl, d0, rfl⟩ (fun _ _ _ _ _ => trivial) (fun i x σ H3 H4 hi hp hy => ?_) (fun σ H3 hp => ?_)
  · obtain ⟨acc, cons, v4, v5, v6, v7, v8, v9, v10, v11, v12, v13, v14, rfl, d, hcl⟩ := hp
    obtain ⟨rfl, rfl⟩ := hy
    refine ⟨by decide, fun R hR => ?_⟩
    have d1 := d.same (same_new hR (.lst []))
    have nlR : l ≠ R := by
      obtain ⟨_, _, h⟩ := d.st
      exact ne_of_none h hR
    have nCR : C ≠ R := ne_of_none d.at_ hR
    have hR1 : upd H4 R (.lst []) R = some (.lst []) := upd_same
    generalize upd H4 R (.lst []) = H5 at d1 hR1
    obtain ⟨s5, t5, hl5⟩ := d1.st
    refine ⟨_, rfl, l, 3, s5, t5, rfl, hl5, by decide, by decide, fun m s6 t6 hm0 hm3 => ⟨m, rfl, by omega, by omega, ?_⟩⟩
    have d2 := d1.take s6 t6
    have hR2 : upd H5 l (.lst [.int s6, .int t6]) R = some (.lst []) := by rw [upd_ne nlR.symm]; exact hR1
    generalize upd H5 l (.lst [.int s6, .int t6]) = H6 at d2 hR2
    refine for_it (walk_r0 (n := m.toNat)) (fun j σ H' => ∃ row v10, σ = [some (.ref a), some (.ref l), some (.int (N : Nat)), some (.ref C), some (.int (i : Nat)), v5, v6, v7, v8, some (.ref R), v10, v11, v12, v13, v14] ∧ DS K N H' l C acc cons ∧ H' R = some (.lst (row.map V.int)) ∧ row.length = j ∧ (∀ z ∈ row, 0 ≤ z) ∧ row.sum ≤ (N : Int)) ⟨[], _, rfl, d2, hR2, rfl, fun _ h => absurd h List.not_mem_nil, by simp⟩ (fun _ _ _ _ _ => trivial) (fun j x σ H7 H8 hj hp hy => ?_) (fun σ H7 hp => ?_)
    · obtain ⟨row, v10, rfl, d7, hR7, hrl, hr0, hrs⟩ := hp
      obtain ⟨rfl, rfl⟩ := hy
      obtain ⟨s7, t7, hl7⟩ := d7.st
      have hsum0 : 0 ≤ row.sum := by
        clear hrs hR7 hrl
        induction row with
        | nil => exact Int.le_refl _
        | cons z r ih =>
          rw [List.sum_cons]
          have h1 := hr0 z (List.mem_cons_self ..)
          have h2 := ih fun y hy => hr0 y (List.mem_cons_of_mem _ hy)
          omega
      refine ⟨_, rfl, .inl ⟨rfl, _, SqL.of hR7⟩, _, rfl, _, rfl, _, _, rfl, rfl, _, rfl, R, row, rfl, SqL.of hR7, _, _, rfl, rfl, l, 1 + (N : Int) - row.sum, s7, t7, rfl, hl7, by omega, by omega, fun v s8 t8 hv0 hv => ?_⟩
      have d8 := d7.take s8 t8
      have hR8 : upd H8 l (.lst [.int s8, .int t8]) R = some (.lst (row.map V.int)) := by rw [upd_ne nlR.symm]; exact hR7
      generalize upd H8 l (.lst [.int s8, .int t8]) = H9 at d8 hR8
      refine ⟨R, _, _, rfl, rfl, hR8, sz (by rw [List.length_map]; omega), row ++ [v], _, rfl, ?_, ?_, ?_, ?_, ?_⟩
      · obtain ⟨s9, t9, hl9⟩ := d8.st
        exact ⟨d8.ne, ⟨s9, t9, by rw [upd_ne nlR]; exact hl9⟩, by rw [upd_ne nCR]; exact d8.at_, (stayP K).allL hR8 d8.pr, d8.ok⟩
      · rw [upd_same, List.map_append]
        rfl
      · rw [List.length_append, hrl]
        rfl
      · intro z hz
        rcases List.mem_append.mp hz with hz | hz
        · exact hr0 z hz
        · rw [List.mem_singleton.mp hz]
          exact hv0
      · rw [List.sum_append, List.sum_singleton]
        omega
    · obtain ⟨row, v10, rfl, d7, hR7, hrl, hr0, hrs⟩ := hp
      refine ⟨_, rfl, .inl ⟨rfl, _, SqL.of d7.at_⟩, _, rfl, _, rfl, _, rfl, R, row, rfl, SqL.of hR7, _, _, rfl, rfl, by show 1 ≤ sizeLine; decide, fun l1 hl1 => ?_⟩
      have s8 := same_new hl1 (.lst [V.int ((N : Int) - row.sum)])
      refine ⟨R, l1, _, _, rfl, rfl, s8 _ _ hR7, upd_same, sz' (by rw [List.length_map, List.length_singleton]; omega), fun l2 hl2 => ?_⟩
      have s9 := s8.trans (same_new hl2 (.lst (row.map V.int ++ [V.int ((N : Int) - row.sum)])))
      refine ⟨l2, _, rfl, .inl ⟨SqL.of upd_same, fun tp htp => ?_⟩⟩
      have s10 := s9.trans (same_new htp (.tup (row.map V.int ++ [V.int ((N : Int) - row.sum)])))
      have htp2 : IsP K (upd (upd (upd H7 l1 (.lst [V.int ((N : Int) - row.sum)])) l2 (.lst (row.map V.int ++ [V.int ((N : Int) - row.sum)]))) tp (.tup (row.map V.int ++ [V.int ((N : Int) - row.sum)]))) (.ref tp) (row ++ [(N : Int) - row.sum]) := by
        refine ⟨tp, rfl, SqT.of ?_⟩
        rw [upd_same, List.map_append]
        rfl
      have d10 := d7.same s10
      generalize upd (upd (upd H7 l1 (.lst [V.int ((N : Int) - row.sum)])) l2 (.lst (row.map V.int ++ [V.int ((N : Int) - row.sum)]))) tp (.tup (row.map V.int ++ [V.int ((N : Int) - row.sum)])) = H10 at htp2 d10
      have hal := pLen d10.pr
      refine ⟨C, acc, _, rfl, rfl, d10.at_, sz (by omega), acc ++ [.ref tp], cons ++ [row ++ [(N : Int) - row.sum]], _, _, _, _, _, _, _, _, _, _, _, rfl, ?_, by rw [List.length_append, hcl]; rfl⟩
      obtain ⟨s11, t11, hl11⟩ := d10.st
      refine ⟨d10.ne, ⟨s11, t11, by rw [upd_ne d10.ne]; exact hl11⟩, upd_same, pApp ((stayP K).allL d10.at_ d10.pr) (.cons ((stayP K).lst d10.at_ htp2) .nil), fun z hz => ?_⟩
      rcases List.mem_append.mp hz with hz | hz
      · exact d10.ok z hz
      · rw [List.mem_singleton.mp hz]
        refine ⟨by simp, by rw [List.length_append, List.length_singleton]; omega, fun y hy => ?_, by rw [List.sum_append, List.sum_singleton]; omega⟩
        rcases List.mem_append.mp hy with hy | hy
        · exact hr0 y hy
        · rw [List.mem_singleton.mp hy]
          omega
  · obtain ⟨acc, cons, v4, v5, v6, v7, v8, v9, v10, v11, v12, v13, v14, rfl, d, hcl⟩ := hp
    obtain ⟨r, c, rfl⟩ : ∃ r c, cons = [r, c] := by
      match cons, hcl with
      | [r, c], _ => exact ⟨r, c, rfl⟩
    have hCat := d.at_
    have hgr := d.ok r (List.mem_cons_self ..)
    have hgc := d.ok c (List.mem_cons_of_mem _ (List.mem_cons_self ..))
    have hpr := d.pr
    clear d
    obtain ⟨va, vb, rfl, hva, hvb⟩ : ∃ va vb, acc = [va, vb] ∧ IsP K H3 va r ∧ IsP K H3 vb c := by
      cases hpr with
      | cons h1 t => cases t with
        | cons h2 t => cases t with
          | nil => exact ⟨_, _, rfl, h1, h2⟩
    have PO := hall N r c hN hgr hgc
    have hrb : ∀ z ∈ r, 0 ≤ z ∧ z ≤ 5 := fun z hz => by
      have h1 := hgr.2.2.1 z hz
      have h2 := (mem_le_sum r hgr.2.2.1).2 z hz
      have h3 := hgr.2.2.2
      omega
    have hcb : ∀ z ∈ c, 0 ≤ z ∧ z ≤ 5 := fun z hz => by
      have h1 := hgc.2.2.1 z hz
      have h2 := (mem_le_sum c hgc.2.2.1).2 z hz
      have h3 := hgc.2.2.2
      omega
    have hrl := hgr.2.1
    have hcl3 := hgc.2.1
    refine ⟨_, rfl, C, _, rfl, SqL.of hCat, rfl, _, _, rfl, _, _, rfl, rfl, ?_⟩
    refine ⟨_, rfl, _, rfl, va, vb, r, c, rfl, hva, hvb, by omega, by omega, by omega, hrb, hcb, PO.mats, fun v H4 s4 hv => ?_⟩
    obtain ⟨da, dvs, rfl, hdn, hda, pda⟩ := hv
    have hva4 := hva.same s4
    have hvb4 := hvb.same s4
    refine ⟨_, rfl, N, rfl, by omega, PO.pts, fun rv H5 s5 hr5 => ?_⟩
    obtain ⟨ta, tvs, rfl, hT, pT⟩ := hr5
    have lT := pLen pT
    refine ⟨ta, rfl, ⟨_, hT⟩, ?_⟩
    refine for_it (walk_tup (xs := tvs)) (fun i σ H' => Same H5 H' ∧ ∃ (t : Int) (v7 : Option V), σ = [some (.ref a), some (.ref l), some (.int (N : Nat)), some (.ref C), v4, some (.ref da), some (.int t), v7, v8, v9, v10, some va, some vb, v13, v14] ∧ ((parts N).drop i).foldl (fun t s => t + countF s r * countF s c) t = total N r c) ⟨.refl _, 0, _, rfl, rfl⟩ (fun i σ H' _ hp => sameT hp.1 hT) (fun i x σ H6 H7 hi hp hy => ?_) (fun σ H6 hp => ?_)
    · obtain ⟨s6, t, v7, rfl, hf⟩ := hp
      obtain ⟨rfl, hx⟩ := hy
      have hil : i < (parts N).length := by omega
      obtain ⟨sh, hsh, hshv⟩ := pAt pT hx
      obtain ⟨g1, g2, g3, g4⟩ := PO.cnt sh (List.mem_of_getElem? hsh)
      have hd : (parts N).drop i = sh :: (parts N).drop (i + 1) := by
        rw [List.drop_eq_getElem_cons hil]
        congr 1
        exact Option.some.inj ((List.getElem?_eq_getElem hil).symm.trans hsh)
      rw [hd, List.foldl_cons] at hf
      have s7 := s5.trans s6
      refine ⟨_, rfl, _, rfl, _, rfl, x, va, .ref e, sh, r, rfl, hshv.same s6, hva4.same s7, he _, g1, fun H8 s8 => ?_⟩
      refine ⟨_, rfl, _, rfl, x, vb, .ref e, sh, c, rfl, hshv.same (s6.trans s8), hvb4.same (s7.trans s8), he _, g2, fun H9 s9 => ?_⟩
      exact ⟨_, _, rfl, rfl, .inl ⟨g3, g4⟩, _, _, rfl, rfl, s6.trans (s8.trans s9), _, _, rfl, hf⟩
    · obtain ⟨s6, t, v7, rfl, hf⟩ := hp
      rw [lT, List.drop_of_length_le (Nat.le_refl _), List.foldl_nil] at hf
      have s7 := s5.trans s6
      have hda7 := s7 _ _ hda
      have pda7 := (stayF K).all s7 pda
      have hva7 := hva4.same s7
      have hvb7 := hvb4.same s7
      have ldv := pLen pda
      refine ⟨_, rfl, _, rfl, da, _, rfl, .inl (SqL.of hda7), rfl, _, rfl, ite2 (fun cc => ?_) (fun _ => ?_)⟩
      · have e1 : V.int t = V.int ((dvs.length : Nat) : Int) := by rw [hf, PO.tot, ldv]
        have cc2 : (!decide (V.int t = V.int ((dvs.length : Nat) : Int))) = true := cc
        rw [decide_eq_true e1] at cc2
        cases cc2
      refine ⟨_, rfl, _, _, rfl, rfl, _, rfl, ite2 (fun cc => qq _) (fun cc => ?_)⟩
      have hN3 : N ≤ 3 := by
        have := of_decide_eq_false (Bool.eq_false_iff.mpr cc)
        omega
      obtain ⟨SOst, SOp, SOq, found, hfd, hfs, hfl⟩ := PO.small hN3
      obtain ⟨hfe, hfm⟩ := found_eq hfd
      clear hT pT lT s5 s6 s7 hda pda hva4 hvb4 hva hvb hf hCat
      refine ⟨by decide, fun o ho => ?_⟩
      have s1' := same_new ho (.lst [])
      have ho1 : upd H6 o (.lst []) o = some (.lst []) := upd_same
      generalize hH7 : upd H6 o (.lst []) = H7 at s1' ho1
      refine ⟨_, rfl, N, rfl, by omega, PO.pts, fun rv H8 s8 hr8 => ?_⟩
      obtain ⟨ta, tvs, rfl, hT, pT⟩ := hr8
      have lT := pLen pT
      refine ⟨ta, rfl, ⟨_, hT⟩, ?_⟩
      have ho8 := s8 _ _ ho1
      have hz0 : ((List.range (parts N).length).flatMap fun i => (fun s => (fillingsM s c).flatMap fun p => (fillingsM s r).map fun q => matO r.length c.length p q) ((parts N).getD i [])) = found := by
        rw [flat_gd (parts N) [] (fun s => (fillingsM s c).flatMap fun p => (fillingsM s r).map fun q => matO r.length c.length p q)]
        exact hfe.symm
      refine for_acc (walk_tup (xs := tvs)) (R := IsF K) (D := o) (fun σ => ∃ v7 v13 v14, σ = [some (.ref a), some (.ref l), some (.int (N : Nat)), some (.ref C), v4, some (.ref da), some (.int t), v7, some (.ref o), v9, v10, some va, some vb, v13, v14]) [] (fun i => (fun s => (fillingsM s c).flatMap fun p => (fillingsM s r).map fun q => matO r.length c.length p q) ((parts N).getD i [])) ⟨_, _, _, rfl⟩ ho8 .nil (fun H9 s9 => s9.seqT ho8 hT) (fun i x σ H9 H10 acc N1 hi hsg s9 hy hacc hp kk => ?_) (fun σ H9 acc hsg s9 hacc hp => ?_)
      · obtain ⟨v7, v13, v14, rfl⟩ := hsg
        obtain ⟨rfl, hx⟩ := hy
        have hil : i < (parts N).length := by omega
        obtain ⟨sh, hsh, hshv⟩ := pAt pT hx
        have hshm := List.mem_of_getElem? hsh
        obtain ⟨st1, st2⟩ := SOst sh hshm
        have hz1 := flat_at _ (fun i => (fun s => (fillingsM s c).flatMap fun p => (fillingsM s r).map fun q => matO r.length c.length p q) ((parts N).getD i [])) i hil
        rw [hz0] at hz1
        rw [getDs hsh] at hz1 kk
        have hacl := pLen hp
        rw [List.nil_append] at hacl
        have slow : Same H6 H10 := ((SamB.of s8).trans s9).same ho s1'
        have hsh2 := (stayP K).samB s9 ho8 hacc hshv
        obtain ⟨ps, eps⟩ : ∃ ps, ps = fillingsM sh c := ⟨_, rfl⟩
        have ez2 : ((List.range ps.length).flatMap fun j => (fun p => (fillingsM sh r).map fun q => matO r.length c.length p q) (ps.getD j [])) = (fillingsM sh c).flatMap fun p => (fillingsM sh r).map fun q => matO r.length c.length p q := by
          rw [flat_gd ps [] (fun p => (fillingsM sh r).map fun q => matO r.length c.length p q), eps]
        simp only [← ez2] at hz1 kk
        refine ⟨_, rfl, _, rfl, x, vb, .ref e2, sh, c, rfl, hsh2, hvb7.same slow, he2 _, by omega, st1, fun rv H11 s11 hr11 => ?_⟩
        rw [← eps] at hr11
        obtain ⟨tb, bvs, rfl, hTb, pTb⟩ := hr11
        have lTb := pLen pTb
        have ho11 := s11 _ _ hacc
        refine ⟨tb, rfl, ⟨_, hTb⟩, ?_⟩
        refine for_acc (walk_tup (xs := bvs)) (R := IsF K) (D := o) (fun σ => ∃ v13 v14, σ = [some (.ref a), some (.ref l), some (.int (N : Nat)), some (.ref C), v4, some (.ref da), some (.int t), some x, some (.ref o), v9, v10, some va, some vb, v13, v14]) _ (fun j => (fun p => (fillingsM sh r).map fun q => matO r.length c.length p q) (ps.getD j [])) ⟨_, _, rfl⟩ ho11 ((stayF K).all s11 hp) (fun H12 s12 => s12.seqT ho11 hTb) (fun j y σ H12 H13 acc2 N2 hj hsg s12 hy hacc2 hp2 kk2 => ?_) (fun σ H12 acc2 hsg s12 hacc2 hp2 => ?_)
        · obtain ⟨v13, v14, rfl⟩ := hsg
          obtain ⟨rfl, hx⟩ := hy
          obtain ⟨p, hpp, hpv⟩ := pAt pTb hx
          have hpm : p ∈ fillingsM sh c := by
            rw [← eps]
            exact List.mem_of_getElem? hpp
          have hz2 := flat_at _ (fun j => (fun p => (fillingsM sh r).map fun q => matO r.length c.length p q) (ps.getD j [])) j (show j < ps.length by omega)
          rw [getDs hpp] at hz2 kk2
          have hacl2 := pLen hp2
          rw [List.length_append, List.nil_append] at hacl2
          have slow2 : Same H6 H13 := ((SamB.of s8).trans (s9.trans ((SamB.of s11).trans s12))).same ho s1'
          have hsh3 := (stayP K).samB ((SamB.of s11).trans s12) hacc hacc2 hsh2
          have hpv2 := (stayF K).samB s12 ho11 hacc2 hpv
          obtain ⟨qs, eqs⟩ : ∃ qs, qs = fillingsM sh r := ⟨_, rfl⟩
          have ez3 : ((List.range qs.length).flatMap fun t => [matO r.length c.length p (qs.getD t [])]) = (fillingsM sh r).map fun q => matO r.length c.length p q := by
            rw [flat_one qs [] (fun q => matO r.length c.length p q), eqs]
          simp only [← ez3] at hz2 kk2
          refine ⟨_, rfl, _, rfl, x, va, .ref e2, sh, r, rfl, hsh3, hva7.same slow2, he2 _, by omega, st2, fun rv H14 s14 hr14 => ?_⟩
          rw [← eqs] at hr14
          obtain ⟨tc, cvs, rfl, hTc, pTc⟩ := hr14
          have lTc := pLen pTc
          have ho14 := s14 _ _ hacc2
          refine ⟨tc, rfl, ⟨_, hTc⟩, ?_⟩
          refine for_acc (walk_tup (xs := cvs)) (R := IsF K) (D := o) (fun σ => ∃ v14, σ = [some (.ref a), some (.ref l), some (.int (N : Nat)), some (.ref C), v4, some (.ref da), some (.int t), some x, some (.ref o), v9, v10, some va, some vb, some y, v14]) _ (fun t => [matO r.length c.length p (qs.getD t [])]) ⟨_, rfl⟩ ho14 ((stayF K).all s14 hp2) (fun H15 s15 => s15.seqT ho14 hTc) (fun u z σ H15 H16 acc3 N3 hu hsg s15 hy hacc3 hp3 kk3 => ?_) (fun σ H15 acc3 hsg s15 hacc3 hp3 => ?_)
          · obtain ⟨v14, rfl⟩ := hsg
            obtain ⟨rfl, hx⟩ := hy
            obtain ⟨q, hqq, hqv⟩ := pAt pTc hx
            have hqm : q ∈ fillingsM sh r := by
              rw [← eqs]
              exact List.mem_of_getElem? hqq
            rw [getDs hqq] at kk3
            have hacl3 := pLen hp3
            rw [List.length_append, List.length_append, List.nil_append] at hacl3
            have hb3 : acc3.length ≤ 100000 := by
              have q1 := flat_len qs.length (fun t => [matO r.length c.length p (qs.getD t [])]) u (by omega)
              rw [hacl3, Nat.add_assoc]
              exact Nat.le_trans (Nat.le_trans (Nat.add_le_add_left (Nat.le_trans (Nat.add_le_add_left q1 _) hz2) _) hz1) hfl
            have slow3 : Same H6 H16 := ((SamB.of s8).trans (s9.trans ((SamB.of s11).trans (s12.trans ((SamB.of s14).trans s15))))).same ho s1'
            have hpv3 := (stayF K).samB ((SamB.of s14).trans s15) hacc2 hacc3 hpv2
            have hqv3 := (stayF K).samB s15 ho14 hacc3 hqv
            have hm := hfm sh hshm p hpm q hqm
            obtain ⟨ra, era', hRa⟩ := hva7.same slow3
            obtain ⟨ca, eca', hCa⟩ := hvb7.same slow3
            refine ⟨_, rfl, .inl ⟨rfl, _, SqL.of hacc3⟩, _, rfl, _, rfl, _, rfl, ra, _, by rw [era'], .inr hRa, _, rfl, ca, _, by rw [eca'], .inr hCa, y, z, p, q, (r.map V.int).length, (c.map V.int).length, matO r.length c.length p q, rfl, hpv3, hqv3, SOp sh hshm p hpm, SOq sh hshm q hqm, by rw [List.length_map]; omega, by rw [List.length_map]; omega, by rw [List.length_map, List.length_map]; exact hm, fun mv H17 s17 hmv => ?_⟩
            have ho17 := s17 _ _ hacc3
            refine ⟨o, acc3, mv, rfl, rfl, ho17, sz (by omega), ?_⟩
            refine kk3 _ _ (acc3 ++ [mv]) ⟨_, rfl⟩ (SamB.of s17).upd upd_same ?_
            exact pApp ((stayF K).allL ho17 ((stayF K).all s17 hp3)) (.cons ((stayF K).lst ho17 hmv) .nil)
          · obtain ⟨v14, rfl⟩ := hsg
            rw [lTc] at hp3
            exact kk2 _ _ acc3 ⟨_, _, rfl⟩ ((SamB.of s14).trans s15) hacc3 hp3
        · obtain ⟨v13, v14, rfl⟩ := hsg
          rw [lTb] at hp2
          exact kk _ _ acc2 ⟨_, _, _, rfl⟩ ((SamB.of s11).trans s12) hacc2 hp2
      · obtain ⟨v7, v13, v14, rfl⟩ := hsg
        rw [List.nil_append, lT, hz0] at hp
        have slow : Same H6 H9 := ((SamB.of s8).trans s9).same ho s1'
        have hda9 := slow _ _ hda7
        have pda9 := (stayF K).all slow pda7
        have hdue : ∀ m ∈ lawMatrices r c, m ≠ [] := fun m hm e => by
          have h1 := lawMatrices_mem r c m hm
          rw [e] at h1
          exact hgr.1 (List.length_eq_zero_iff.mp h1.symm)
        have hfnd : ∀ m ∈ found, m ≠ [] := fun m hm => by
          refine hdue m ?_
          have h1 := (isort_perm (le := le2) found).mem_iff.mpr hm
          rw [hfs] at h1
          exact (isort_perm _).mem_iff.mp h1
        refine ⟨_, rfl, o, acc, found, rfl, SqL.of hacc, hp, fun _ b hb => hfnd b hb, fun ys p hys hpn => ?_⟩
        have s10 := same_new hpn (.lst ys)
        refine ⟨_, rfl, da, dvs, lawMatrices r c, rfl, SqL.of (s10 _ _ hda9), (stayF K).all s10 pda9, fun _ b hb => hdue b hb, fun ys2 p2 hys2 hpn2 => ?_⟩
        have s11 := same_new hpn2 (.lst ys2)
        have ef : isort (fun x y => !ordF.lt y x) found = isort le2 (lawMatrices r c) := hfs
        rw [ef] at hys
        have hys' := (stayF K).all (s10.trans s11) hys
        have hys2' := (stayF K).all s11 hys2
        refine ⟨.list ((isort le2 (lawMatrices r c)).map encF), .list ((isort le2 (lawMatrices r c)).map encF), .lst (SqL.of (s11 _ _ upd_same)) (dpAllOf (fun v x h => IsF.dp h) hys'), .lst (SqL.of upd_same) (dpAllOf (fun v x h => IsF.dp h) hys2'), shapedL _, shapedL _, ?_⟩
        have ee : PyData.eqv (.list ((isort le2 (lawMatrices r c)).map encF)) (.list ((isort le2 (lawMatrices r c)).map encF)) = true := SeqAt.eqv_refl _ (SeqAt.canLay_of_shaped (shapedL _))
        rw [ee]
        exact qq _
end
end K19

namespace K19
def dot : List Int → List Int → Int
  | a :: as, b :: bs => a * b + dot as bs
  | _, _ => 0
def rowOf (N : Nat) (r : List Int) : List Int := (parts N).map fun s => countF s r
def tabOf (N : Nat) : List (List Int) := (contents N).map (rowOf N)
def matsOk (N : Nat) (T : List (List Int)) : Bool := (List.zip (contents N) T).all fun r => (List.zip (contents N) T).all fun c => decide (dot r.2 c.2 = ((lawMatrices r.1 c.1).length : Int)) && decide (dot r.2 c.2 ≤ 100000)
def tabEq (N : Nat) (T : List (List Int)) : Bool := decide (tabOf N = T)
def cntOk (N : Nat) : Bool := (contents N).all fun c => (parts N).all fun s => countOk s c [([], 1)]
def tabSm (T : List (List Int)) : Bool := T.all fun r => r.all fun z => decide (-1000 ≤ z) && decide (z ≤ 1000)
def ptsOk (N : Nat) : Bool := decide ((parts N).length ≤ 100000)
def smB (M : List (List Int)) : Bool := decide (M.length ≤ 1000) && M.all fun r => decide (r.length ≤ 1000)
def stB (N : Nat) : Bool := (contents N).all fun c => (parts N).all fun s => stepsOk c.reverse [[s]] && (fillingsM s c).all smB
def fndB (N : Nat) : Bool := (contents N).all fun r => (contents N).all fun c => match foundM N r c with
  | none => false
  | some found => decide (isort le2 found = isort le2 (lawMatrices r c)) && decide (found.length ≤ 100000)
def T0 : List (List Int) := [[1], [1], [1]]
def T1 : List (List Int) := [[1], [1], [1], [1], [1], [1]]
def T2 : List (List Int) := [[1, 0], [1, 0], [1, 1], [1, 0], [1, 0], [1, 1], [1, 0], [1, 1], [1, 1], [1, 0]]
def T3 : List (List Int) := [[1, 0, 0], [1, 0, 0], [1, 1, 0], [1, 1, 0], [1, 0, 0], [1, 0, 0], [1, 1, 0], [1, 1, 0], [1, 0, 0], [1, 1, 0], [1, 2, 1], [1, 1, 0], [1, 1, 0], [1, 1, 0], [1, 0, 0]]
def T4 : List (List Int) := [[1, 0, 0, 0, 0], [1, 0, 0, 0, 0], [1, 1, 0, 0, 0], [1, 1, 1, 0, 0], [1, 1, 0, 0, 0], [1, 0, 0, 0, 0], [1, 0, 0, 0, 0], [1, 1, 0, 0, 0], [1, 1, 1, 0, 0], [1, 1, 0, 0, 0], [1, 0, 0, 0, 0], [1, 1, 0, 0, 0], [1, 2, 1, 1, 0], [1, 2, 1, 1, 0], [1, 1, 0, 0, 0], [1, 1, 1, 0, 0], [1, 2, 1, 1, 0], [1, 1, 1, 0, 0], [1, 1, 0, 0, 0], [1, 1, 0, 0, 0], [1, 0, 0, 0, 0]]
def T5 : List (List Int) := [[1, 0, 0, 0, 0, 0, 0], [1, 0, 0, 0, 0, 0, 0], [1, 1, 0, 0, 0, 0, 0], [1, 1, 1, 0, 0, 0, 0], [1, 1, 1, 0, 0, 0, 0], [1, 1, 0, 0, 0, 0, 0], [1, 0, 0, 0, 0, 0, 0], [1, 0, 0, 0, 0, 0, 0], [1, 1, 0, 0, 0, 0, 0], [1, 1, 1, 0, 0, 0, 0], [1, 1, 1, 0, 0, 0, 0], [1, 1, 0, 0, 0, 0, 0], [1, 0, 0, 0, 0, 0, 0], [1, 1, 0, 0, 0, 0, 0], [1, 2, 1, 1, 0, 0, 0], [1, 2, 2, 1, 1, 0, 0], [1, 2, 1, 1, 0, 0, 0], [1, 1, 0, 0, 0, 0, 0], [1, 1, 1, 0, 0, 0, 0], [1, 2, 2, 1, 1, 0, 0], [1, 2, 2, 1, 1, 0, 0], [1, 1, 1, 0, 0, 0, 0], [1, 1, 1, 0, 0, 0, 0], [1, 2, 1, 1, 0, 0, 0], [1, 1, 1, 0, 0, 0, 0], [1, 1, 0, 0, 0, 0, 0], [1, 1, 0, 0, 0, 0, 0], [1, 0, 0, 0, 0, 0, 0]]
theorem t0 : tabEq 0 T0 = true := by decide +kernel
theorem m0 : matsOk 0 T0 = true := by decide +kernel
theorem s0 : tabSm T0 = true := by decide +kernel
theorem c0 : cntOk 0 = true := by decide +kernel
theorem p0 : ptsOk 0 = true := by decide +kernel
theorem b0 : stB 0 = true := by decide +kernel
theorem f0 : fndB 0 = true := by decide +kernel
theorem t1 : tabEq 1 T1 = true := by decide +kernel
theorem m1 : matsOk 1 T1 = true := by decide +kernel
theorem s1 : tabSm T1 = true := by decide +kernel
theorem c1 : cntOk 1 = true := by decide +kernel
theorem p1 : ptsOk 1 = true := by decide +kernel
theorem b1 : stB 1 = true := by decide +kernel
theorem f1 : fndB 1 = true := by decide +kernel
theorem t2 : tabEq 2 T2 = true := by decide +kernel
theorem m2 : matsOk 2 T2 = true := by decide +kernel
theorem s2 : tabSm T2 = true := by decide +kernel
theorem c2 : cntOk 2 = true := by decide +kernel
theorem p2 : ptsOk 2 = true := by decide +kernel
theorem b2 : stB 2 = true := by decide +kernel
theorem f2 : fndB 2 = true := by decide +kernel
theorem t3 : tabEq 3 T3 = true := by decide +kernel
theorem m3 : matsOk 3 T3 = true := by decide +kernel
theorem s3 : tabSm T3 = true := by decide +kernel
theorem c3 : cntOk 3 = true := by decide +kernel
theorem p3 : ptsOk 3 = true := by decide +kernel
theorem b3 : stB 3 = true := by decide +kernel
theorem f3 : fndB 3 = true := by decide +kernel
theorem t4 : tabEq 4 T4 = true := by decide +kernel
theorem m4 : matsOk 4 T4 = true := by decide +kernel
theorem s4 : tabSm T4 = true := by decide +kernel
theorem c4 : cntOk 4 = true := by decide +kernel
theorem p4 : ptsOk 4 = true := by decide +kernel
theorem t5 : tabEq 5 T5 = true := by decide +kernel
theorem m5 : matsOk 5 T5 = true := by decide +kernel
theorem s5 : tabSm T5 = true := by decide +kernel
theorem c5 : cntOk 5 = true := by decide +kernel
theorem p5 : ptsOk 5 = true := by decide +kernel
end K19

namespace K19
theorem contents_mem {N : Nat} : ∀ {c : List Int}, GoodC N c → c ∈ contents N
  | [], h => absurd rfl h.1
  | [x], h => by
    obtain ⟨_, _, _, h4⟩ := h
    have e : x = (N : Int) := by simpa using h4
    unfold contents
    rw [e]
    exact List.mem_append_left _ (List.mem_append_left _ (List.mem_singleton.mpr rfl))
  | [x, y], h => by
    obtain ⟨_, _, h3, h4⟩ := h
    have h5 : x + y = (N : Int) := by simpa using h4
    have hx := h3 x (List.mem_cons_self ..)
    have hy := h3 y (List.mem_cons_of_mem _ (List.mem_cons_self ..))
    unfold contents
    refine List.mem_append_left _ (List.mem_append_right _ (List.mem_map.mpr ⟨x.toNat, List.mem_range.mpr (by omega), ?_⟩))
    have e1 : ((x.toNat : Nat) : Int) = x := by omega
    rw [e1]
    have e2 : (N : Int) - x = y := by omega
    rw [e2]
  | [x, y, z], h => by
    obtain ⟨_, _, h3, h4⟩ := h
    have h5 : x + (y + z) = (N : Int) := by simpa using h4
    have hx := h3 x (List.mem_cons_self ..)
    have hy := h3 y (List.mem_cons_of_mem _ (List.mem_cons_self ..))
    have hz := h3 z (List.mem_cons_of_mem _ (List.mem_cons_of_mem _ (List.mem_cons_self ..)))
    unfold contents
    refine List.mem_append_right _ (List.mem_flatMap.mpr ⟨x.toNat, List.mem_range.mpr (by omega), List.mem_map.mpr ⟨y.toNat, List.mem_range.mpr (by omega), ?_⟩⟩)
    have e1 : ((x.toNat : Nat) : Int) = x := by omega
    have e2 : ((y.toNat : Nat) : Int) = y := by omega
    rw [e1, e2]
    have e3 : (N : Int) - x - y = z := by omega
    rw [e3]
  | _ :: _ :: _ :: _ :: l, h => by
    have := h.2.1
    simp only [List.length_cons] at this
    omega
theorem fold_dot (f g : List Int → Int) : ∀ (l : List (List Int)) (t : Int), l.foldl (fun t s => t + f s * g s) t = t + dot (l.map f) (l.map g)
  | [], t => by
    show t = t + 0
    omega
  | s :: r, t => by
    rw [List.foldl_cons, fold_dot f g r, List.map_cons, List.map_cons]
    have e : dot (f s :: r.map f) (g s :: r.map g) = f s * g s + dot (r.map f) (r.map g) := rfl
    rw [e, Int.add_assoc]
theorem zip_map_self {α β : Type} (f : α → β) : ∀ l : List α, List.zip l (l.map f) = l.map fun x => (x, f x)
  | [] => rfl
  | x :: r => by rw [List.map_cons, List.zip_cons_cons, zip_map_self f r]; rfl
theorem smB_of {M : List (List Int)} (h : smB M = true) : Sm M := by
  unfold smB at h
  rw [Bool.and_eq_true, decide_eq_true_eq, List.all_eq_true] at h
  exact ⟨h.1, fun r hr => of_decide_eq_true (h.2 r hr)⟩
theorem pair_of {N : Nat} {T : List (List Int)} (t : tabEq N T = true) (m : matsOk N T = true) (s : tabSm T = true) (k : cntOk N = true) (p : ptsOk N = true) (b : N ≤ 3 → stB N = true ∧ fndB N = true) {r c : List Int} (hr : GoodC N r) (hc : GoodC N c) : PairOk N r c := by
  have hr' := contents_mem hr
  have hc' := contents_mem hc
  have eT : T = tabOf N := (of_decide_eq_true t).symm
  subst eT
  have hk : ∀ x ∈ contents N, ∀ s ∈ parts N, countOk s x [([], 1)] = true := fun x hx s hs => by
    unfold cntOk at k
    exact List.all_eq_true.mp (List.all_eq_true.mp k x hx) s hs
  have hm : dot (rowOf N r) (rowOf N c) = ((lawMatrices r c).length : Int) ∧ dot (rowOf N r) (rowOf N c) ≤ 100000 := by
    unfold matsOk tabOf at m
    rw [zip_map_self] at m
    have h1 := List.all_eq_true.mp m (r, rowOf N r) (List.mem_map.mpr ⟨r, hr', rfl⟩)
    have h2 := List.all_eq_true.mp h1 (c, rowOf N c) (List.mem_map.mpr ⟨c, hc', rfl⟩)
    rw [Bool.and_eq_true, decide_eq_true_eq, decide_eq_true_eq] at h2
    exact h2
  refine ⟨fun s' hs => ⟨hk r hr' s' hs, hk c hc' s' hs, ?_⟩, ?_, ?_, of_decide_eq_true p, fun h3 => ?_⟩
  · unfold tabSm tabOf at s
    have h1 := List.all_eq_true.mp s (rowOf N r) (List.mem_map.mpr ⟨r, hr', rfl⟩)
    have h2 := List.all_eq_true.mp h1 (countF s' r) (List.mem_map.mpr ⟨s', hs, rfl⟩)
    rw [Bool.and_eq_true, decide_eq_true_eq, decide_eq_true_eq] at h2
    exact ⟨Int.lt_of_lt_of_le (by decide) h2.1, Int.lt_of_le_of_lt h2.2 (by decide)⟩
  · rw [← hm.1]
    unfold total
    rw [fold_dot (fun s => countF s r) (fun s => countF s c)]
    show 0 + dot (rowOf N r) (rowOf N c) = _
    omega
  · have := hm.1
    omega
  · obtain ⟨b1, b2⟩ := b h3
    have hst : ∀ x ∈ contents N, ∀ s ∈ parts N, stepsOk x.reverse [[s]] = true ∧ ∀ p ∈ fillingsM s x, Sm p := fun x hx s hs => by
      unfold stB at b1
      have h1 := List.all_eq_true.mp (List.all_eq_true.mp b1 x hx) s hs
      rw [Bool.and_eq_true, List.all_eq_true] at h1
      exact ⟨h1.1, fun p hp => smB_of (h1.2 p hp)⟩
    refine ⟨fun s hs => ⟨(hst c hc' s hs).1, (hst r hr' s hs).1⟩, fun s hs => (hst c hc' s hs).2, fun s hs => (hst r hr' s hs).2, ?_⟩
    unfold fndB at b2
    have h1 := List.all_eq_true.mp (List.all_eq_true.mp b2 r hr') c hc'
    split at h1
    · cases h1
    · rename_i found hf
      rw [Bool.and_eq_true, decide_eq_true_eq, decide_eq_true_eq] at h1
      exact ⟨found, hf, h1.1, h1.2⟩
theorem hall : ∀ (N : Nat) (r c : List Int), N < 6 → GoodC N r → GoodC N c → PairOk N r c
  | 0, _, _, _, hr, hc => pair_of t0 m0 s0 c0 p0 (fun _ => ⟨b0, f0⟩) hr hc
  | 1, _, _, _, hr, hc => pair_of t1 m1 s1 c1 p1 (fun _ => ⟨b1, f1⟩) hr hc
  | 2, _, _, _, hr, hc => pair_of t2 m2 s2 c2 p2 (fun _ => ⟨b2, f2⟩) hr hc
  | 3, _, _, _, hr, hc => pair_of t3 m3 s3 c3 p3 (fun _ => ⟨b3, f3⟩) hr hc
  | 4, _, _, _, hr, hc => pair_of t4 m4 s4 c4 p4 (fun h => absurd h (by decide)) hr hc
  | 5, _, _, _, hr, hc => pair_of t5 m5 s5 c5 p5 (fun h => absurd h (by decide)) hr hc
  | _ + 6, _, _, h, _, _ => absurd h (by omega)
end K19

namespace K19
open PySem PySem.Spec PyProof.Rows L2
section
variable {K : PySem.W.Frag} {mg : Str → Option Value} {h : Heap} {x : Str} {st : Stmt} {ps : List Str} {f : Addr} {oc kV dc pm cd ct : Value} {od an : Option Addr} {sl : Array (Option Value)}
theorem dfn0 (X : K.In h) (G : h.Ns mainGlobals mg) (a : PySem.W.nsIn K mainGlobals x = some (some (.ref f))) (l : K.lookup f = some ⟨oc, od, .func (PySem.W.fnOf x x (defArgs st) (defBody st) (defScope st) .none kV dc pm an cd ct), sl⟩) (c : PySem.W.codeIn K cd x = true) (k : PySem.W.keepIn K (.ref f) = true)
    (hb : ∀ (kV doc pm : Value) (an : Option Addr) (cdv ct : Value) (us : List Value), us.length = ps.length → bindArgs (PySem.W.fnOf x x (defArgs st) (defBody st) (defScope st) .none kV doc pm an cdv ct) ⟨us, []⟩ = pure (ps.zip us)) : Dfn K mg x st ps [] :=
  ⟨f, _, [], oc, od, .none, kV, dc, pm, an, cd, ct, sl, rfl, l, c, k, PySem.W.mg_of X G a, Binds.all fun us hl => hb kV dc pm an cd ct us hl, .nil⟩
theorem dfn1 {T E : Addr} {oc4 : Value} {od4 : Option Addr} {n4 : Nat} {sl4 : Array (Option Value)} (X : K.In h) (G : h.Ns mainGlobals mg) (a : PySem.W.nsIn K mainGlobals x = some (some (.ref f))) (l : K.lookup f = some ⟨oc, od, .func (PySem.W.fnOf x x (defArgs st) (defBody st) (defScope st) (.ref T) kV dc pm an cd ct), sl⟩) (c : PySem.W.codeIn K cd x = true) (k : PySem.W.keepIn K (.ref f) = true)
    (t : K.lookup T = some ⟨oc4, od4, .seq #[.ref E] n4, sl4⟩) (n : Nat) (hn : n + 1 = ps.length)
    (hb : ∀ (T : Addr) (kV doc pm : Value) (an : Option Addr) (cdv ct : Value) (us its : List Value), us.length = n → its.length = 1 →
      ∃ k, bindArgs (PySem.W.fnOf x x (defArgs st) (defBody st) (defScope st) (.ref T) kV doc pm an cdv ct) ⟨us, []⟩ = seqItems? (.ref T) >>= k ∧ k (some its.toArray) = pure (ps.zip (us ++ its.drop 0))) : Dfn K mg x st ps [.ref E] := by
  have F : FunD K x x (defArgs st) (defBody st) (defScope st) [.ref E] [] f (PySem.W.fnOf x x (defArgs st) (defBody st) (defScope st) (.ref T) kV dc pm an cd ct) :=
    ⟨⟨oc, od, .ref T, kV, dc, pm, an, cd, ct, sl, rfl, l, c, .inr ⟨by simp, T, _, [.ref E], n4, rfl, t, rfl, .cons rfl .nil⟩, .inl rfl⟩, k⟩
  obtain ⟨ds, hv, hbi⟩ := F.binds1 (ps := ps) n 0 (by simp) hn hb
  exact ⟨f, _, ds, oc, od, .ref T, kV, dc, pm, an, cd, ct, sl, rfl, l, c, k, PySem.W.mg_of X G a, hbi, hv⟩
theorem dfnK {D : Addr} {kn : Str} {b : Bool} (X : K.In h) (G : h.Ns mainGlobals mg) (a : PySem.W.nsIn K mainGlobals x = some (some (.ref f))) (l : K.lookup f = some ⟨oc, od, .func (PySem.W.fnOf x x (defArgs st) (defBody st) (defScope st) .none (.ref D) dc pm an cd ct), sl⟩) (c : PySem.W.codeIn K cd x = true) (k : PySem.W.keepIn K (.ref f) = true)
    (d : PySem.W.nsIn K D kn = some (some (.bool b))) (n : Nat) (hn : n + 1 = ps.length)
    (hb : ∀ (D : Addr) (doc pm : Value) (an : Option Addr) (cdv ct : Value) (us ks : List Value), us.length = n → ks.length = 1 →
      KwChain D ([kn].zip ks) (bindArgs (PySem.W.fnOf x x (defArgs st) (defBody st) (defScope st) .none (.ref D) doc pm an cdv ct) ⟨us, []⟩) (ps.zip (us ++ ks))) : Dfn K mg x st ps [.bl b] := by
  have F : FunD K x x (defArgs st) (defBody st) (defScope st) [] [(kn, .bl b)] f (PySem.W.fnOf x x (defArgs st) (defBody st) (defScope st) .none (.ref D) dc pm an cd ct) :=
    ⟨⟨oc, od, .none, .ref D, dc, pm, an, cd, ct, sl, rfl, l, c, .inl ⟨rfl, rfl⟩, .inr ⟨D, rfl, fun q hq => by
      rw [List.mem_singleton.mp hq]
      exact ⟨_, d, rfl⟩⟩⟩, k⟩
  obtain ⟨ds, hv, hbi⟩ := F.binds0 (ps := ps) n (by simp) hn hb
  exact ⟨f, _, ds, oc, od, .none, .ref D, dc, pm, an, cd, ct, sl, rfl, l, c, k, PySem.W.mg_of X G a, hbi, hv⟩
theorem empty_of {E : Addr} {oc5 : Value} {od5 : Option Addr} {n5 : Nat} {sl5 : Array (Option Value)} (e : K.lookup E = some ⟨oc5, od5, .seq #[] n5, sl5⟩) (y : oc5 = .type "tuple") (H : Hp) : IsP K H (.ref E) [] :=
  ⟨E, rfl, .inr ⟨_, #[], n5, e, y, rfl, Nat.zero_le _, .nil⟩⟩
theorem tb_with : ∀ (D : Addr) (doc pm : Value) (an : Option Addr) (cdv ct : Value) (us ks : List Value), us.length = 2 → ks.length = 1 →
      KwChain D ((["upright"] : List Str).zip ks) (bindArgs (PySem.W.fnOf "with_strip" "with_strip" (defArgs s_with_strip) (defBody s_with_strip) (defScope s_with_strip) .none (.ref D) doc pm an cdv ct) ⟨us, []⟩) ((["b", "k", "upright"] : List Str).zip (us ++ ks)) := fun _ _ _ _ _ _ us ks hu hk =>
  match us, ks, hu, hk with
  | [_, _], [_], _, _ => ⟨_, _, _, _, _, _, rfl, rfl, rfl⟩
theorem tb_fil : ∀ (T : Addr) (kV doc pm : Value) (an : Option Addr) (cdv ct : Value) (us its : List Value), us.length = 2 → its.length = 1 →
      ∃ k, bindArgs (PySem.W.fnOf "is_filling" "is_filling" (defArgs s_is_filling) (defBody s_is_filling) (defScope s_is_filling) (.ref T) kV doc pm an cdv ct) ⟨us, []⟩ = seqItems? (.ref T) >>= k ∧ k (some its.toArray) = pure ((["rows", "outer", "inner"] : List Str).zip (us ++ its.drop 0)) := fun _ _ _ _ _ _ _ us its hu hi =>
  match us, its, hu, hi with
  | [_, _], [_], _, _ => ⟨_, rfl, rfl⟩
end
end K19

namespace K19
open PySem PySem.Spec PyProof.Rows L2
theorem all_mk {l : PySem.W.OpenLaw} {w : World} {K : PySem.W.Frag} {h : Heap} {mg : Str → Option Value} {fa f0 f1 f2 f3 f4 D4 f5 D5 f6 f7 f8 f9 f10 f11 T11 E11 f12 f13 f14 f15 f16 f17 f18 T18 E18 f19 T19 E19 f20 f21 f22 f23 f24 : Addr}
    {oc0 kV0 dc0 pm0 cd0 ct0 : Value} {od0 an0 : Option Addr} {sl0 : Array (Option Value)}
    {oc1 kV1 dc1 pm1 cd1 ct1 : Value} {od1 an1 : Option Addr} {sl1 : Array (Option Value)}
    {oc2 kV2 dc2 pm2 cd2 ct2 : Value} {od2 an2 : Option Addr} {sl2 : Array (Option Value)}
    {oc3 kV3 dc3 pm3 cd3 ct3 : Value} {od3 an3 : Option Addr} {sl3 : Array (Option Value)}
    {oc4 dc4 pm4 cd4 ct4 : Value} {od4 an4 : Option Addr} {sl4 : Array (Option Value)}
    {oc5 dc5 pm5 cd5 ct5 : Value} {od5 an5 : Option Addr} {sl5 : Array (Option Value)}
    {oc6 kV6 dc6 pm6 cd6 ct6 : Value} {od6 an6 : Option Addr} {sl6 : Array (Option Value)}
    {oc7 kV7 dc7 pm7 cd7 ct7 : Value} {od7 an7 : Option Addr} {sl7 : Array (Option Value)}
    {oc8 kV8 dc8 pm8 cd8 ct8 : Value} {od8 an8 : Option Addr} {sl8 : Array (Option Value)}
    {oc9 kV9 dc9 pm9 cd9 ct9 : Value} {od9 an9 : Option Addr} {sl9 : Array (Option Value)}
    {oc10 kV10 dc10 pm10 cd10 ct10 : Value} {od10 an10 : Option Addr} {sl10 : Array (Option Value)}
    {oc11 kV11 dc11 pm11 cd11 ct11 : Value} {od11 an11 : Option Addr} {sl11 : Array (Option Value)}
    {oct11 oce11 : Value} {odt11 ode11 : Option Addr} {nt11 ne11 : Nat} {slt11 sle11 : Array (Option Value)}
    {oc12 kV12 dc12 pm12 cd12 ct12 : Value} {od12 an12 : Option Addr} {sl12 : Array (Option Value)}
    {oc13 kV13 dc13 pm13 cd13 ct13 : Value} {od13 an13 : Option Addr} {sl13 : Array (Option Value)}
    {oc14 kV14 dc14 pm14 cd14 ct14 : Value} {od14 an14 : Option Addr} {sl14 : Array (Option Value)}
    {oc15 kV15 dc15 pm15 cd15 ct15 : Value} {od15 an15 : Option Addr} {sl15 : Array (Option Value)}
    {oc16 kV16 dc16 pm16 cd16 ct16 : Value} {od16 an16 : Option Addr} {sl16 : Array (Option Value)}
    {oc17 kV17 dc17 pm17 cd17 ct17 : Value} {od17 an17 : Option Addr} {sl17 : Array (Option Value)}
    {oc18 kV18 dc18 pm18 cd18 ct18 : Value} {od18 an18 : Option Addr} {sl18 : Array (Option Value)}
    {oct18 oce18 : Value} {odt18 ode18 : Option Addr} {nt18 ne18 : Nat} {slt18 sle18 : Array (Option Value)}
    {oc19 kV19 dc19 pm19 cd19 ct19 : Value} {od19 an19 : Option Addr} {sl19 : Array (Option Value)}
    {oct19 oce19 : Value} {odt19 ode19 : Option Addr} {nt19 ne19 : Nat} {slt19 sle19 : Array (Option Value)}
    {oc20 kV20 dc20 pm20 cd20 ct20 : Value} {od20 an20 : Option Addr} {sl20 : Array (Option Value)}
    {oc21 kV21 dc21 pm21 cd21 ct21 : Value} {od21 an21 : Option Addr} {sl21 : Array (Option Value)}
    {oc22 kV22 dc22 pm22 cd22 ct22 : Value} {od22 an22 : Option Addr} {sl22 : Array (Option Value)}
    {oc23 kV23 dc23 pm23 cd23 ct23 : Value} {od23 an23 : Option Addr} {sl23 : Array (Option Value)}
    {oc24 kV24 dc24 pm24 cd24 ct24 : Value} {od24 an24 : Option Addr} {sl24 : Array (Option Value)}
    {tk : Tok}
    (X : K.In h) (G : h.Ns mainGlobals mg) (hfa : mg "law" = some (.ref fa))
    (a0 : PySem.W.nsIn K mainGlobals "part_at" = some (some (.ref f0))) (l0 : K.lookup f0 = some ⟨oc0, od0, .func (PySem.W.fnOf "part_at" "part_at" (defArgs s_part_at) (defBody s_part_at) (defScope s_part_at) .none kV0 dc0 pm0 an0 cd0 ct0), sl0⟩) (c0 : PySem.W.codeIn K cd0 "part_at" = true) (k0 : PySem.W.keepIn K (.ref f0) = true)
    (a1 : PySem.W.nsIn K mainGlobals "holds" = some (some (.ref f1))) (l1 : K.lookup f1 = some ⟨oc1, od1, .func (PySem.W.fnOf "holds" "holds" (defArgs s_holds) (defBody s_holds) (defScope s_holds) .none kV1 dc1 pm1 an1 cd1 ct1), sl1⟩) (c1 : PySem.W.codeIn K cd1 "holds" = true) (k1 : PySem.W.keepIn K (.ref f1) = true)
    (a2 : PySem.W.nsIn K mainGlobals "_trimmed" = some (some (.ref f2))) (l2 : K.lookup f2 = some ⟨oc2, od2, .func (PySem.W.fnOf "_trimmed" "_trimmed" (defArgs s_trimmed) (defBody s_trimmed) (defScope s_trimmed) .none kV2 dc2 pm2 an2 cd2 ct2), sl2⟩) (c2 : PySem.W.codeIn K cd2 "_trimmed" = true) (k2 : PySem.W.keepIn K (.ref f2) = true)
    (a3 : PySem.W.nsIn K mainGlobals "_rows" = some (some (.ref f3))) (l3 : K.lookup f3 = some ⟨oc3, od3, .func (PySem.W.fnOf "_rows" "_rows" (defArgs s_rows) (defBody s_rows) (defScope s_rows) .none kV3 dc3 pm3 an3 cd3 ct3), sl3⟩) (c3 : PySem.W.codeIn K cd3 "_rows" = true) (k3 : PySem.W.keepIn K (.ref f3) = true)
    (a4 : PySem.W.nsIn K mainGlobals "with_strip" = some (some (.ref f4))) (l4 : K.lookup f4 = some ⟨oc4, od4, .func (PySem.W.fnOf "with_strip" "with_strip" (defArgs s_with_strip) (defBody s_with_strip) (defScope s_with_strip) .none (.ref D4) dc4 pm4 an4 cd4 ct4), sl4⟩) (c4 : PySem.W.codeIn K cd4 "with_strip" = true) (k4 : PySem.W.keepIn K (.ref f4) = true) (d4 : PySem.W.nsIn K D4 "upright" = some (some (.bool false)))
    (a5 : PySem.W.nsIn K mainGlobals "without_strip" = some (some (.ref f5))) (l5 : K.lookup f5 = some ⟨oc5, od5, .func (PySem.W.fnOf "without_strip" "without_strip" (defArgs s_without_strip) (defBody s_without_strip) (defScope s_without_strip) .none (.ref D5) dc5 pm5 an5 cd5 ct5), sl5⟩) (c5 : PySem.W.codeIn K cd5 "without_strip" = true) (k5 : PySem.W.keepIn K (.ref f5) = true) (d5 : PySem.W.nsIn K D5 "upright" = some (some (.bool false)))
    (a6 : PySem.W.nsIn K mainGlobals "_partitions_below" = some (some (.ref f6))) (l6 : K.lookup f6 = some ⟨oc6, od6, .func (PySem.W.fnOf "_partitions_below" "_partitions_below" (defArgs s_partitions_below) (defBody s_partitions_below) (defScope s_partitions_below) .none kV6 dc6 pm6 an6 cd6 ct6), sl6⟩) (c6 : PySem.W.codeIn K cd6 "_partitions_below" = true) (k6 : PySem.W.keepIn K (.ref f6) = true)
    (a7 : PySem.W.nsIn K mainGlobals "partitions" = some (some (.ref f7))) (l7 : K.lookup f7 = some ⟨oc7, od7, .func (PySem.W.fnOf "partitions" "partitions" (defArgs s_partitions) (defBody s_partitions) (defScope s_partitions) .none kV7 dc7 pm7 an7 cd7 ct7), sl7⟩) (c7 : PySem.W.codeIn K cd7 "partitions" = true) (k7 : PySem.W.keepIn K (.ref f7) = true)
    (a8 : PySem.W.nsIn K mainGlobals "is_partition" = some (some (.ref f8))) (l8 : K.lookup f8 = some ⟨oc8, od8, .func (PySem.W.fnOf "is_partition" "is_partition" (defArgs s_is_partition) (defBody s_is_partition) (defScope s_is_partition) .none kV8 dc8 pm8 an8 cd8 ct8), sl8⟩) (c8 : PySem.W.codeIn K cd8 "is_partition" = true) (k8 : PySem.W.keepIn K (.ref f8) = true)
    (a9 : PySem.W.nsIn K mainGlobals "_shape_fits" = some (some (.ref f9))) (l9 : K.lookup f9 = some ⟨oc9, od9, .func (PySem.W.fnOf "_shape_fits" "_shape_fits" (defArgs s_shape_fits) (defBody s_shape_fits) (defScope s_shape_fits) .none kV9 dc9 pm9 an9 cd9 ct9), sl9⟩) (c9 : PySem.W.codeIn K cd9 "_shape_fits" = true) (k9 : PySem.W.keepIn K (.ref f9) = true)
    (a10 : PySem.W.nsIn K mainGlobals "_number_at" = some (some (.ref f10))) (l10 : K.lookup f10 = some ⟨oc10, od10, .func (PySem.W.fnOf "_number_at" "_number_at" (defArgs s_number_at) (defBody s_number_at) (defScope s_number_at) .none kV10 dc10 pm10 an10 cd10 ct10), sl10⟩) (c10 : PySem.W.codeIn K cd10 "_number_at" = true) (k10 : PySem.W.keepIn K (.ref f10) = true)
    (a11 : PySem.W.nsIn K mainGlobals "is_filling" = some (some (.ref f11))) (l11 : K.lookup f11 = some ⟨oc11, od11, .func (PySem.W.fnOf "is_filling" "is_filling" (defArgs s_is_filling) (defBody s_is_filling) (defScope s_is_filling) (.ref T11) kV11 dc11 pm11 an11 cd11 ct11), sl11⟩) (c11 : PySem.W.codeIn K cd11 "is_filling" = true) (k11 : PySem.W.keepIn K (.ref f11) = true) (t11 : K.lookup T11 = some ⟨oct11, odt11, .seq #[.ref E11] nt11, slt11⟩) (e11 : K.lookup E11 = some ⟨oce11, ode11, .seq #[] ne11, sle11⟩) (y11 : oce11 = .type "tuple")
    (a12 : PySem.W.nsIn K mainGlobals "_check_pair" = some (some (.ref f12))) (l12 : K.lookup f12 = some ⟨oc12, od12, .func (PySem.W.fnOf "_check_pair" "_check_pair" (defArgs s_check_pair) (defBody s_check_pair) (defScope s_check_pair) .none kV12 dc12 pm12 an12 cd12 ct12), sl12⟩) (c12 : PySem.W.codeIn K cd12 "_check_pair" = true) (k12 : PySem.W.keepIn K (.ref f12) = true)
    (a13 : PySem.W.nsIn K mainGlobals "taken" = some (some (.ref f13))) (l13 : K.lookup f13 = some ⟨oc13, od13, .func (PySem.W.fnOf "taken" "taken" (defArgs s_taken) (defBody s_taken) (defScope s_taken) .none kV13 dc13 pm13 an13 cd13 ct13), sl13⟩) (c13 : PySem.W.codeIn K cd13 "taken" = true) (k13 : PySem.W.keepIn K (.ref f13) = true)
    (a14 : PySem.W.nsIn K mainGlobals "_last_place" = some (some (.ref f14))) (l14 : K.lookup f14 = some ⟨oc14, od14, .func (PySem.W.fnOf "_last_place" "_last_place" (defArgs s_last_place) (defBody s_last_place) (defScope s_last_place) .none kV14 dc14 pm14 an14 cd14 ct14), sl14⟩) (c14 : PySem.W.codeIn K cd14 "_last_place" = true) (k14 : PySem.W.keepIn K (.ref f14) = true)
    (a15 : PySem.W.nsIn K mainGlobals "_pairs_back" = some (some (.ref f15))) (l15 : K.lookup f15 = some ⟨oc15, od15, .func (PySem.W.fnOf "_pairs_back" "_pairs_back" (defArgs s_pairs_back) (defBody s_pairs_back) (defScope s_pairs_back) .none kV15 dc15 pm15 an15 cd15 ct15), sl15⟩) (c15 : PySem.W.codeIn K cd15 "_pairs_back" = true) (k15 : PySem.W.keepIn K (.ref f15) = true)
    (a16 : PySem.W.nsIn K mainGlobals "matrix_of_pair" = some (some (.ref f16))) (l16 : K.lookup f16 = some ⟨oc16, od16, .func (PySem.W.fnOf "matrix_of_pair" "matrix_of_pair" (defArgs s_matrix_of_pair) (defBody s_matrix_of_pair) (defScope s_matrix_of_pair) .none kV16 dc16 pm16 an16 cd16 ct16), sl16⟩) (c16 : PySem.W.codeIn K cd16 "matrix_of_pair" = true) (k16 : PySem.W.keepIn K (.ref f16) = true)
    (a17 : PySem.W.nsIn K mainGlobals "_filling_of" = some (some (.ref f17))) (l17 : K.lookup f17 = some ⟨oc17, od17, .func (PySem.W.fnOf "_filling_of" "_filling_of" (defArgs s_filling_of) (defBody s_filling_of) (defScope s_filling_of) .none kV17 dc17 pm17 an17 cd17 ct17), sl17⟩) (c17 : PySem.W.codeIn K cd17 "_filling_of" = true) (k17 : PySem.W.keepIn K (.ref f17) = true)
    (a18 : PySem.W.nsIn K mainGlobals "fillings" = some (some (.ref f18))) (l18 : K.lookup f18 = some ⟨oc18, od18, .func (PySem.W.fnOf "fillings" "fillings" (defArgs s_fillings) (defBody s_fillings) (defScope s_fillings) (.ref T18) kV18 dc18 pm18 an18 cd18 ct18), sl18⟩) (c18 : PySem.W.codeIn K cd18 "fillings" = true) (k18 : PySem.W.keepIn K (.ref f18) = true) (t18 : K.lookup T18 = some ⟨oct18, odt18, .seq #[.ref E18] nt18, slt18⟩) (e18 : K.lookup E18 = some ⟨oce18, ode18, .seq #[] ne18, sle18⟩) (y18 : oce18 = .type "tuple")
    (a19 : PySem.W.nsIn K mainGlobals "count_fillings" = some (some (.ref f19))) (l19 : K.lookup f19 = some ⟨oc19, od19, .func (PySem.W.fnOf "count_fillings" "count_fillings" (defArgs s_count_fillings) (defBody s_count_fillings) (defScope s_count_fillings) (.ref T19) kV19 dc19 pm19 an19 cd19 ct19), sl19⟩) (c19 : PySem.W.codeIn K cd19 "count_fillings" = true) (k19 : PySem.W.keepIn K (.ref f19) = true) (t19 : K.lookup T19 = some ⟨oct19, odt19, .seq #[.ref E19] nt19, slt19⟩) (e19 : K.lookup E19 = some ⟨oce19, ode19, .seq #[] ne19, sle19⟩) (y19 : oce19 = .type "tuple")
    (a20 : PySem.W.nsIn K mainGlobals "_law_state" = some (some (.ref f20))) (l20 : K.lookup f20 = some ⟨oc20, od20, .func (PySem.W.fnOf "_law_state" "_law_state" (defArgs s_law_state) (defBody s_law_state) (defScope s_law_state) .none kV20 dc20 pm20 an20 cd20 ct20), sl20⟩) (c20 : PySem.W.codeIn K cd20 "_law_state" = true) (k20 : PySem.W.keepIn K (.ref f20) = true)
    (a21 : PySem.W.nsIn K mainGlobals "_law_take" = some (some (.ref f21))) (l21 : K.lookup f21 = some ⟨oc21, od21, .func (PySem.W.fnOf "_law_take" "_law_take" (defArgs s_law_take) (defBody s_law_take) (defScope s_law_take) .none kV21 dc21 pm21 an21 cd21 ct21), sl21⟩) (c21 : PySem.W.codeIn K cd21 "_law_take" = true) (k21 : PySem.W.keepIn K (.ref f21) = true)
    (a22 : PySem.W.nsIn K mainGlobals "_law_rows" = some (some (.ref f22))) (l22 : K.lookup f22 = some ⟨oc22, od22, .func (PySem.W.fnOf "_law_rows" "_law_rows" (defArgs s_law_rows) (defBody s_law_rows) (defScope s_law_rows) .none kV22 dc22 pm22 an22 cd22 ct22), sl22⟩) (c22 : PySem.W.codeIn K cd22 "_law_rows" = true) (k22 : PySem.W.keepIn K (.ref f22) = true)
    (a23 : PySem.W.nsIn K mainGlobals "_law_matrices" = some (some (.ref f23))) (l23 : K.lookup f23 = some ⟨oc23, od23, .func (PySem.W.fnOf "_law_matrices" "_law_matrices" (defArgs s_law_matrices) (defBody s_law_matrices) (defScope s_law_matrices) .none kV23 dc23 pm23 an23 cd23 ct23), sl23⟩) (c23 : PySem.W.codeIn K cd23 "_law_matrices" = true) (k23 : PySem.W.keepIn K (.ref f23) = true)
    (a24 : PySem.W.nsIn K mainGlobals "law" = some (some (.ref f24))) (l24 : K.lookup f24 = some ⟨oc24, od24, .func (PySem.W.fnOf "law" "law" (defArgs s_law) (defBody s_law) (defScope s_law) .none kV24 dc24 pm24 an24 cd24 ct24), sl24⟩) (c24 : PySem.W.codeIn K cd24 "law" = true) (k24 : PySem.W.keepIn K (.ref f24) = true)
    (aM : PySem.W.nsIn K mainGlobals "MOST" = some (some (.int 12 tk)))
    (z_len : PySem.W.nsIn K mainGlobals "len" = some none)
    (z_range : PySem.W.nsIn K mainGlobals "range" = some none)
    (z_tuple : PySem.W.nsIn K mainGlobals "tuple" = some none)
    (z_list : PySem.W.nsIn K mainGlobals "list" = some none)
    (z_sum : PySem.W.nsIn K mainGlobals "sum" = some none)
    (z_min : PySem.W.nsIn K mainGlobals "min" = some none)
    (z_max : PySem.W.nsIn K mainGlobals "max" = some none)
    (z_sorted : PySem.W.nsIn K mainGlobals "sorted" = some none)
    (z_dict : PySem.W.nsIn K mainGlobals "dict" = some none)
    (z_int : PySem.W.nsIn K mainGlobals "int" = some none)
    (z_abs : PySem.W.nsIn K mainGlobals "abs" = some none)
    (z_isinstance : PySem.W.nsIn K mainGlobals "isinstance" = some none)
    (z_bool : PySem.W.nsIn K mainGlobals "bool" = some none)
    (z_enumerate : PySem.W.nsIn K mainGlobals "enumerate" = some none)
    (z_reversed : PySem.W.nsIn K mainGlobals "reversed" = some none) :
    ∃ fd : FuncData, (∀ (s : Shared) (v : Value), BindsTo s fd ⟨[v], []⟩ [("_law_script", v)]) ∧ ∀ base : Heap, K.In base → base.Ns mainGlobals mg → FnOk l.prog w K mg base CX0 21 fa fd ["_law_script"] (spLaw K) := by
  have D_part_at : Dfn K mg "part_at" s_part_at (["a", "i"] : List Str) [] := dfn0 X G a0 l0 c0 k0 fun _ _ _ _ _ _ us hl => match us, hl with | [_, _], _ => rfl
  have D_holds : Dfn K mg "holds" s_holds (["a", "b"] : List Str) [] := dfn0 X G a1 l1 c1 k1 fun _ _ _ _ _ _ us hl => match us, hl with | [_, _], _ => rfl
  have D_trimmed : Dfn K mg "_trimmed" s_trimmed (["row"] : List Str) [] := dfn0 X G a2 l2 c2 k2 fun _ _ _ _ _ _ us hl => match us, hl with | [_], _ => rfl
  have D_rows : Dfn K mg "_rows" s_rows (["lows", "highs", "total"] : List Str) [] := dfn0 X G a3 l3 c3 k3 fun _ _ _ _ _ _ us hl => match us, hl with | [_, _, _], _ => rfl
  have D_with_strip : Dfn K mg "with_strip" s_with_strip (["b", "k", "upright"] : List Str) [.bl false] := dfnK X G a4 l4 c4 k4 d4 2 rfl fun _ _ _ _ _ _ us ks hu hk => match us, ks, hu, hk with | [_, _], [_], _, _ => ⟨_, _, _, _, _, _, rfl, rfl, rfl⟩
  have D_without_strip : Dfn K mg "without_strip" s_without_strip (["a", "k", "upright"] : List Str) [.bl false] := dfnK X G a5 l5 c5 k5 d5 2 rfl fun _ _ _ _ _ _ us ks hu hk => match us, ks, hu, hk with | [_, _], [_], _, _ => ⟨_, _, _, _, _, _, rfl, rfl, rfl⟩
  have D_partitions_below : Dfn K mg "_partitions_below" s_partitions_below (["n", "most"] : List Str) [] := dfn0 X G a6 l6 c6 k6 fun _ _ _ _ _ _ us hl => match us, hl with | [_, _], _ => rfl
  have D_partitions : Dfn K mg "partitions" s_partitions (["n"] : List Str) [] := dfn0 X G a7 l7 c7 k7 fun _ _ _ _ _ _ us hl => match us, hl with | [_], _ => rfl
  have D_is_partition : Dfn K mg "is_partition" s_is_partition (["value"] : List Str) [] := dfn0 X G a8 l8 c8 k8 fun _ _ _ _ _ _ us hl => match us, hl with | [_], _ => rfl
  have D_shape_fits : Dfn K mg "_shape_fits" s_shape_fits (["rows", "outer", "inner"] : List Str) [] := dfn0 X G a9 l9 c9 k9 fun _ _ _ _ _ _ us hl => match us, hl with | [_, _, _], _ => rfl
  have D_number_at : Dfn K mg "_number_at" s_number_at (["rows", "inner", "i", "j"] : List Str) [] := dfn0 X G a10 l10 c10 k10 fun _ _ _ _ _ _ us hl => match us, hl with | [_, _, _, _], _ => rfl
  have D_is_filling : Dfn K mg "is_filling" s_is_filling (["rows", "outer", "inner"] : List Str) [.ref E11] := dfn1 X G a11 l11 c11 k11 t11 2 rfl fun _ _ _ _ _ _ _ us its hu hi => match us, its, hu, hi with | [_, _], [_], _, _ => ⟨_, rfl, rfl⟩
  have he_is_filling : ∀ H, IsP K H (.ref E11) [] := empty_of e11 y11
  have D_check_pair : Dfn K mg "_check_pair" s_check_pair (["p", "q"] : List Str) [] := dfn0 X G a12 l12 c12 k12 fun _ _ _ _ _ _ us hl => match us, hl with | [_, _], _ => rfl
  have D_taken : Dfn K mg "taken" s_taken (["rows", "i"] : List Str) [] := dfn0 X G a13 l13 c13 k13 fun _ _ _ _ _ _ us hl => match us, hl with | [_, _], _ => rfl
  have D_last_place : Dfn K mg "_last_place" s_last_place (["q"] : List Str) [] := dfn0 X G a14 l14 c14 k14 fun _ _ _ _ _ _ us hl => match us, hl with | [_], _ => rfl
  have D_pairs_back : Dfn K mg "_pairs_back" s_pairs_back (["p", "q"] : List Str) [] := dfn0 X G a15 l15 c15 k15 fun _ _ _ _ _ _ us hl => match us, hl with | [_, _], _ => rfl
  have D_matrix_of_pair : Dfn K mg "matrix_of_pair" s_matrix_of_pair (["p", "q", "height", "width"] : List Str) [] := dfn0 X G a16 l16 c16 k16 fun _ _ _ _ _ _ us hl => match us, hl with | [_, _, _, _], _ => rfl
  have D_filling_of : Dfn K mg "_filling_of" s_filling_of (["chain"] : List Str) [] := dfn0 X G a17 l17 c17 k17 fun _ _ _ _ _ _ us hl => match us, hl with | [_], _ => rfl
  have D_fillings : Dfn K mg "fillings" s_fillings (["outer", "content", "inner"] : List Str) [.ref E18] := dfn1 X G a18 l18 c18 k18 t18 2 rfl fun _ _ _ _ _ _ _ us its hu hi => match us, its, hu, hi with | [_, _], [_], _, _ => ⟨_, rfl, rfl⟩
  have he_fillings : ∀ H, IsP K H (.ref E18) [] := empty_of e18 y18
  have D_count_fillings : Dfn K mg "count_fillings" s_count_fillings (["outer", "content", "inner"] : List Str) [.ref E19] := dfn1 X G a19 l19 c19 k19 t19 2 rfl fun _ _ _ _ _ _ _ us its hu hi => match us, its, hu, hi with | [_, _], [_], _, _ => ⟨_, rfl, rfl⟩
  have he_count_fillings : ∀ H, IsP K H (.ref E19) [] := empty_of e19 y19
  have D_law_state : Dfn K mg "_law_state" s_law_state (["_law_script"] : List Str) [] := dfn0 X G a20 l20 c20 k20 fun _ _ _ _ _ _ us hl => match us, hl with | [_], _ => rfl
  have D_law_take : Dfn K mg "_law_take" s_law_take (["_law_state_here", "_law_m"] : List Str) [] := dfn0 X G a21 l21 c21 k21 fun _ _ _ _ _ _ us hl => match us, hl with | [_, _], _ => rfl
  have D_law_rows : Dfn K mg "_law_rows" s_law_rows (["_law_total", "_law_bounds"] : List Str) [] := dfn0 X G a22 l22 c22 k22 fun _ _ _ _ _ _ us hl => match us, hl with | [_, _], _ => rfl
  have D_law_matrices : Dfn K mg "_law_matrices" s_law_matrices (["_law_rows_here", "_law_columns"] : List Str) [] := dfn0 X G a23 l23 c23 k23 fun _ _ _ _ _ _ us hl => match us, hl with | [_, _], _ => rfl
  have D_law : Dfn K mg "law" s_law (["_law_script"] : List Str) [] := dfn0 X G a24 l24 c24 k24 fun _ _ _ _ _ _ us hl => match us, hl with | [_], _ => rfl
  have m_len : mg "len" = none := PySem.W.mg_none_of X G z_len
  have m_range : mg "range" = none := PySem.W.mg_none_of X G z_range
  have m_tuple : mg "tuple" = none := PySem.W.mg_none_of X G z_tuple
  have m_list : mg "list" = none := PySem.W.mg_none_of X G z_list
  have m_sum : mg "sum" = none := PySem.W.mg_none_of X G z_sum
  have m_min : mg "min" = none := PySem.W.mg_none_of X G z_min
  have m_max : mg "max" = none := PySem.W.mg_none_of X G z_max
  have m_sorted : mg "sorted" = none := PySem.W.mg_none_of X G z_sorted
  have m_dict : mg "dict" = none := PySem.W.mg_none_of X G z_dict
  have m_int : mg "int" = none := PySem.W.mg_none_of X G z_int
  have m_abs : mg "abs" = none := PySem.W.mg_none_of X G z_abs
  have m_isinstance : mg "isinstance" = none := PySem.W.mg_none_of X G z_isinstance
  have m_bool : mg "bool" = none := PySem.W.mg_none_of X G z_bool
  have m_enumerate : mg "enumerate" = none := PySem.W.mg_none_of X G z_enumerate
  have m_reversed : mg "reversed" = none := PySem.W.mg_none_of X G z_reversed
  have m_MOST : mg "MOST" = some (.int 12 tk) := PySem.W.mg_of X G aM
  have efa : f24 = fa := by
    have q := PySem.W.mg_of X G a24
    rw [hfa] at q
    cases q
    rfl
  refine ⟨PySem.W.fnOf "law" "law" (defArgs s_law) (defBody s_law) (defScope s_law) .none kV24 dc24 pm24 an24 cd24 ct24, fun s v => .of_eq rfl, fun base KB GB => ?_⟩
  have c_part_at := ok_part_at (P := l.prog) (w := w) (K := K) (mg := mg) (base := base) (k := 0) (F := D_part_at) (m_len := m_len)
  have c_holds := ok_holds (P := l.prog) (w := w) (K := K) (mg := mg) (base := base) (k := 0) (F := D_holds) (m_len := m_len) (m_range := m_range)
  have c_trimmed := ok_trimmed (P := l.prog) (w := w) (K := K) (mg := mg) (base := base) (k := 0) (F := D_trimmed) (m_tuple := m_tuple)
  have c_rows := all_rows (P := l.prog) (w := w) (K := K) (mg := mg) (base := base) (F := D_rows) (m_len := m_len) (m_range := m_range) 12
  have c_with_strip := ok_with_strip (P := l.prog) (w := w) (K := K) (mg := mg) (base := base) (k := 12) (F := D_with_strip) (c_rows := c_rows.mono (by decide)) (c_part_at := c_part_at.mono (by decide)) (c_trimmed := c_trimmed.mono (by decide)) (m_list := m_list) (m_tuple := m_tuple) (m_sum := m_sum)
  have c_without_strip := ok_without_strip (P := l.prog) (w := w) (K := K) (mg := mg) (base := base) (k := 12) (F := D_without_strip) (c_rows := c_rows.mono (by decide)) (c_part_at := c_part_at.mono (by decide)) (c_trimmed := c_trimmed.mono (by decide)) (m_list := m_list) (m_tuple := m_tuple) (m_sum := m_sum) (m_range := m_range) (m_len := m_len)
  have c_partitions_below := all_partitions_below (P := l.prog) (w := w) (K := K) (mg := mg) (base := base) (F := D_partitions_below) (m_min := m_min) (m_range := m_range) 10
  have c_partitions := ok_partitions (P := l.prog) (w := w) (K := K) (mg := mg) (base := base) (k := 10) (F := D_partitions) (c_partitions_below := c_partitions_below.mono (by decide)) (m_MOST := m_MOST) (m_tuple := m_tuple) (m_isinstance := m_isinstance) (m_int := m_int) (m_bool := m_bool)
  have c_is_partition := ok_is_partition (P := l.prog) (w := w) (K := K) (mg := mg) (base := base) (k := 0) (F := D_is_partition) (m_tuple := m_tuple) (m_isinstance := m_isinstance) (m_int := m_int) (m_bool := m_bool)
  have c_shape_fits := ok_shape_fits (P := l.prog) (w := w) (K := K) (mg := mg) (base := base) (k := 1) (F := D_shape_fits) (c_part_at := c_part_at.mono (by decide)) (m_tuple := m_tuple) (m_isinstance := m_isinstance) (m_int := m_int) (m_bool := m_bool) (m_len := m_len) (m_enumerate := m_enumerate)
  have c_number_at := ok_number_at (P := l.prog) (w := w) (K := K) (mg := mg) (base := base) (k := 1) (F := D_number_at) (c_part_at := c_part_at.mono (by decide)) (m_len := m_len)
  have c_is_filling := ok_is_filling (P := l.prog) (w := w) (K := K) (mg := mg) (base := base) (k := 2) (F := D_is_filling) (c_shape_fits := c_shape_fits.mono (by decide)) (c_number_at := c_number_at.mono (by decide)) (c_part_at := c_part_at.mono (by decide)) (m_enumerate := m_enumerate)
  have c_check_pair := ok_check_pair (P := l.prog) (w := w) (K := K) (mg := mg) (base := base) (k := 3) (F := D_check_pair) (c_is_partition := c_is_partition.mono (by decide)) (c_is_filling := c_is_filling.mono (by decide)) (m_tuple := m_tuple) (m_isinstance := m_isinstance) (m_len := m_len) (he := he_is_filling)
  have c_taken := ok_taken (P := l.prog) (w := w) (K := K) (mg := mg) (base := base) (k := 0) (F := D_taken) (m_tuple := m_tuple) (m_list := m_list) (m_len := m_len) (m_range := m_range)
  have c_last_place := ok_last_place (P := l.prog) (w := w) (K := K) (mg := mg) (base := base) (k := 0) (F := D_last_place) (m_len := m_len) (m_enumerate := m_enumerate) (m_max := m_max)
  have c_pairs_back := ok_pairs_back (P := l.prog) (w := w) (K := K) (mg := mg) (base := base) (k := 1) (F := D_pairs_back) (c_last_place := c_last_place.mono (by decide)) (c_taken := c_taken.mono (by decide)) (m_len := m_len) (m_enumerate := m_enumerate) (m_tuple := m_tuple)
  have c_matrix_of_pair := ok_matrix_of_pair (P := l.prog) (w := w) (K := K) (mg := mg) (base := base) (k := 4) (F := D_matrix_of_pair) (c_check_pair := c_check_pair.mono (by decide)) (c_pairs_back := c_pairs_back.mono (by decide)) (m_range := m_range) (m_tuple := m_tuple)
  have c_filling_of := ok_filling_of (P := l.prog) (w := w) (K := K) (mg := mg) (base := base) (k := 1) (F := D_filling_of) (c_part_at := c_part_at.mono (by decide)) (m_len := m_len) (m_range := m_range) (m_tuple := m_tuple)
  have c_fillings := ok_fillings (P := l.prog) (w := w) (K := K) (mg := mg) (base := base) (k := 13) (F := D_fillings) (c_without_strip := c_without_strip.mono (by decide)) (c_holds := c_holds.mono (by decide)) (c_filling_of := c_filling_of.mono (by decide)) (m_reversed := m_reversed) (m_list := m_list) (m_tuple := m_tuple) (m_sorted := m_sorted)
  have c_count_fillings := ok_count_fillings (P := l.prog) (w := w) (K := K) (mg := mg) (base := base) (k := 13) (F := D_count_fillings) (c_with_strip := c_with_strip.mono (by decide)) (c_holds := c_holds.mono (by decide)) (m_sorted := m_sorted) (m_dict := m_dict)
  have c_law_state := ok_law_state (P := l.prog) (w := w) (K := K) (mg := mg) (base := base) (k := 0) (F := D_law_state) (m_abs := m_abs) (m_int := m_int)
  have c_law_take := ok_law_take (P := l.prog) (w := w) (K := K) (mg := mg) (base := base) (k := 0) (F := D_law_take) (m_int := m_int)
  have c_law_rows := all_law_rows (P := l.prog) (w := w) (K := K) (mg := mg) (base := base) (F := D_law_rows) (m_len := m_len) (m_min := m_min) (m_range := m_range) 10
  have c_law_matrices := all_law_matrices (P := l.prog) (w := w) (K := K) (mg := mg) (base := base) (k := 10) (F := D_law_matrices) (c_law_rows := c_law_rows) (m_len := m_len) (m_max := m_max) (m_list := m_list) (m_tuple := m_tuple) (m_range := m_range) 10
  exact ok_law (P := l.prog) (w := w) (K := K) (mg := mg) (base := base) (k := 20) (F := D_law) (hall := hall) (c_law_state := c_law_state.mono (by decide)) (c_law_take := c_law_take.mono (by decide)) (c_law_matrices := c_law_matrices.mono (by decide)) (c_partitions := c_partitions.mono (by decide)) (c_count_fillings := c_count_fillings.mono (by decide)) (c_fillings := c_fillings.mono (by decide)) (c_matrix_of_pair := c_matrix_of_pair.mono (by decide)) (m_range := m_range) (m_sum := m_sum) (m_tuple := m_tuple) (m_len := m_len) (m_sorted := m_sorted) (he := he_count_fillings) (he2 := he_fillings) hfa (efa ▸ l24)
end K19

open PySem PySem.W PyProof.Rows
set_option maxHeartbeats 0 in
theorem PySem.Challenge.cw_fivebases_k19_whole_counts_by_pairs_holds : PySem.Challenge.rw_fivebases_k19_whole_counts_by_pairs.Holds := by
  w_on; o_law; k_head; (case hw => w_witness2)
  k_fill
  refine L2.walk_of (l := PySem.Challenge.rw_fivebases_k19_whole_counts_by_pairs) (n := 63) (k := 21) (x := "_law_script") (CX := fun _ => L2.CX0) (sp := fun w => K19.spLaw _) rfl (by decide) rfl ⟨rfl, by decide, by decide⟩ (fun w h Y => PySem.W.kIn_of Y) ?F (fun _ _ a ns hl _ hS => ⟨a, ns, rfl, hS, hl, fun _ => rfl⟩) (fun _ _ _ _ _ h => h)
  case F =>
    intro w mg fa h KX G hmg
    refine' K19.all_mk KX G hmg ?a0 ?l0 ?c0 ?k0 ?a1 ?l1 ?c1 ?k1 ?a2 ?l2 ?c2 ?k2 ?a3 ?l3 ?c3 ?k3 ?a4 ?l4 ?c4 ?k4 ?d4 ?a5 ?l5 ?c5 ?k5 ?d5 ?a6 ?l6 ?c6 ?k6 ?a7 ?l7 ?c7 ?k7 ?a8 ?l8 ?c8 ?k8 ?a9 ?l9 ?c9 ?k9 ?a10 ?l10 ?c10 ?k10 ?a11 ?l11 ?c11 ?k11 ?t11 ?e11 ?y11 ?a12 ?l12 ?c12 ?k12 ?a13 ?l13 ?c13 ?k13 ?a14 ?l14 ?c14 ?k14 ?a15 ?l15 ?c15 ?k15 ?a16 ?l16 ?c16 ?k16 ?a17 ?l17 ?c17 ?k17 ?a18 ?l18 ?c18 ?k18 ?t18 ?e18 ?y18 ?a19 ?l19 ?c19 ?k19 ?t19 ?e19 ?y19 ?a20 ?l20 ?c20 ?k20 ?a21 ?l21 ?c21 ?k21 ?a22 ?l22 ?c22 ?k22 ?a23 ?l23 ?c23 ?k23 ?a24 ?l24 ?c24 ?k24 ?aM ?z_len ?z_range ?z_tuple ?z_list ?z_sum ?z_min ?z_max ?z_sorted ?z_dict ?z_int ?z_abs ?z_isinstance ?z_bool ?z_enumerate ?z_reversed
    (case a0 => k_is)
    (case l0 => k_is)
    (case c0 => k_is)
    (case k0 => k_is)
    (case a1 => k_is)
    (case l1 => k_is)
    (case c1 => k_is)
    (case k1 => k_is)
    (case a2 => k_is)
    (case l2 => k_is)
    (case c2 => k_is)
    (case k2 => k_is)
    (case a3 => k_is)
    (case l3 => k_is)
    (case c3 => k_is)
    (case k3 => k_is)
    (case a4 => k_is)
    (case l4 => k_is)
    (case c4 => k_is)
    (case k4 => k_is)
    (case d4 => k_is)
    (case a5 => k_is)
    (case l5 => k_is)
    (case c5 => k_is)
    (case k5 => k_is)
    (case d5 => k_is)
    (case a6 => k_is)
    (case l6 => k_is)
    (case c6 => k_is)
    (case k6 => k_is)
    (case a7 => k_is)
    (case l7 => k_is)
    (case c7 => k_is)
    (case k7 => k_is)
    (case a8 => k_is)
    (case l8 => k_is)
    (case c8 => k_is)
    (case k8 => k_is)
    (case a9 => k_is)
    (case l9 => k_is)
    (case c9 => k_is)
    (case k9 => k_is)
    (case a10 => k_is)
    (case l10 => k_is)
    (case c10 => k_is)
    (case k10 => k_is)
    (case a11 => k_is)
    (case l11 => k_is)
    (case c11 => k_is)
    (case k11 => k_is)
    (case t11 => k_is)
    (case e11 => k_is)
    (case y11 => rfl)
    (case a12 => k_is)
    (case l12 => k_is)
    (case c12 => k_is)
    (case k12 => k_is)
    (case a13 => k_is)
    (case l13 => k_is)
    (case c13 => k_is)
    (case k13 => k_is)
    (case a14 => k_is)
    (case l14 => k_is)
    (case c14 => k_is)
    (case k14 => k_is)
    (case a15 => k_is)
    (case l15 => k_is)
    (case c15 => k_is)
    (case k15 => k_is)
    (case a16 => k_is)
    (case l16 => k_is)
    (case c16 => k_is)
    (case k16 => k_is)
    (case a17 => k_is)
    (case l17 => k_is)
    (case c17 => k_is)
    (case k17 => k_is)
    (case a18 => k_is)
    (case l18 => k_is)
    (case c18 => k_is)
    (case k18 => k_is)
    (case t18 => k_is)
    (case e18 => k_is)
    (case y18 => rfl)
    (case a19 => k_is)
    (case l19 => k_is)
    (case c19 => k_is)
    (case k19 => k_is)
    (case t19 => k_is)
    (case e19 => k_is)
    (case y19 => rfl)
    (case a20 => k_is)
    (case l20 => k_is)
    (case c20 => k_is)
    (case k20 => k_is)
    (case a21 => k_is)
    (case l21 => k_is)
    (case c21 => k_is)
    (case k21 => k_is)
    (case a22 => k_is)
    (case l22 => k_is)
    (case c22 => k_is)
    (case k22 => k_is)
    (case a23 => k_is)
    (case l23 => k_is)
    (case c23 => k_is)
    (case k23 => k_is)
    (case a24 => k_is)
    (case l24 => k_is)
    (case c24 => k_is)
    (case k24 => k_is)
    (case aM => k_is)
    (case z_len => k_is)
    (case z_range => k_is)
    (case z_tuple => k_is)
    (case z_list => k_is)
    (case z_sum => k_is)
    (case z_min => k_is)
    (case z_max => k_is)
    (case z_sorted => k_is)
    (case z_dict => k_is)
    (case z_int => k_is)
    (case z_abs => k_is)
    (case z_isinstance => k_is)
    (case z_bool => k_is)
    (case z_enumerate => k_is)
    (case z_reversed => k_is)
