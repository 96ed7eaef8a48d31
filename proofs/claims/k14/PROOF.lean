import PyProof.Rows.All
import Wide.All
import OpenK.AllK
import Wide.FinOn
import KE.DatumIndex
import HandS.ForExc
import HandS.Flow
import HandS.Star
import HandS.TupAny
import HandS.TupMul
import HandS.Wide
import HandS.Zip
import HandS.Conv
import HandS.Text
import HandS.StrMore
import HandS.IsInst
import HandS.Deep
import HandS.ReHeld
import HandS.Defaults
import PyProof.P3In
import HandS.TupLe
import HandS.RaiseMore
import HandS.More
import HandS.Style
import HandS.Comp
import HandS.Iter
import KE.GoesMore
import KE.GoesEnum
import HandS.DictComp
import HandS.TupSets
import HandS.SortRule
import HandS.Set
import PyProof.Rows.SetFrom
import HandS.WordsDict
import HandS.HeadHook2
import HandS.HeadEnd
import HandS.HeadHook4
import HandS.Head2
import KE.KStrBytes
import PySem.Challenge.RW_allcoursesfit_k14_whole_fulfils_and_sour
set_option Elab.async false
set_option linter.all false
set_option maxRecDepth 100000
set_option maxHeartbeats 200000
/-! values, own heap, the small language, its evaluator -/
namespace Vy
open PySem
/-- a value: immutable ones whole, mutable ones by their place in the own heap -/
inductive Va where
  | non
  | bl (b : Bool)
  | int (i : Int)
  | str (x : Str)
  | ty (n : String)
  | glb (x : Str)
  | ref (n : Nat)
  | tup (ws : List Va)
  deriving Inhabited
/-- what stands at a place -/
inductive Ce where
  | lst (ws : List Va)
  | frz (ws : List Va)
  | kd (ks : List (List Int))
  deriving Inhabited
abbrev Hm := List Ce
abbrev Sg := List (Option Va)
inductive Res (α : Type) where
  | ok (a : α) (h : Hm)
  | exc (c : Str) (v : Va) (h : Hm)
  | bad
def Res.bind {α β : Type} (r : Res α) (f : α → Hm → Res β) : Res β := match r with
  | .ok a h => f a h
  | .exc c v h => .exc c v h
  | .bad => .bad
@[simp] theorem bind_ok {α β : Type} (a : α) (h : Hm) (f : α → Hm → Res β) : (Res.ok a h).bind f = f a h := rfl
@[simp] theorem bind_bad {α β : Type} (f : α → Hm → Res β) : (Res.bad).bind f = Res.bad := rfl
theorem bind_eq_ok {α β : Type} {r : Res α} {f : α → Hm → Res β} {b : β} {h : Hm} (e : r.bind f = .ok b h) : ∃ a h1, r = .ok a h1 ∧ f a h1 = .ok b h := by
  cases r with
  | ok a h1 => exact ⟨a, h1, rfl, e⟩
  | exc c v h1 => cases e
  | bad => cases e
/-! the data that a value is, its lists read off the heap (to depth 3) -/
mutual
def Va.dat (g : Nat → Option PyData) : Va → Option PyData
  | .non => some .none
  | .bl b => some (.bool b)
  | .int i => some (.int i)
  | .str x => some (.str x)
  | .ref n => g n
  | .tup ws => (Va.dats g ws).map PyData.tuple
  | .ty _ => none
  | .glb _ => none
def Va.dats (g : Nat → Option PyData) : List Va → Option (List PyData)
  | [] => some []
  | w :: ws => match Va.dat g w, Va.dats g ws with
    | some d, some ds => some (d :: ds)
    | _, _ => none
end
def cellDat (g : Nat → Option PyData) : Option Ce → Option PyData
  | some (.lst ws) => (Va.dats g ws).map PyData.list
  | some (.frz ws) => (Va.dats g ws).map PyData.list
  | _ => none
def datH (h : Hm) : Nat → Nat → Option PyData
  | 0, _ => none
  | k + 1, n => cellDat (datH h k) h[n]?
def dat (h : Hm) (w : Va) : Option PyData := w.dat (datH h 3)
mutual
def Va.pure : Va → Bool
  | .ref _ => false
  | .tup ws => Va.pures ws
  | _ => true
def Va.pures : List Va → Bool
  | [] => true
  | w :: ws => w.pure && Va.pures ws
end
mutual
def Va.low (n : Nat) : Va → Bool
  | .ref k => decide (k < n)
  | .tup ws => Va.lows n ws
  | _ => true
def Va.lows (n : Nat) : List Va → Bool
  | [] => true
  | w :: ws => w.low n && Va.lows n ws
end
def Ce.low (n : Nat) : Ce → Bool
  | .lst ws => Va.lows n ws
  | .frz ws => Va.lows n ws
  | .kd _ => true
/-! collecting what a call left behind -/
def keptB (h h' : Hm) : Prop := ∀ i, i < h.length → h'[i]? = h[i]? ∨ ∃ c, h'[i]? = some c ∧ c.low h.length = true
open Classical in
noncomputable def gc (h : Hm) (w : Va) (h' : Hm) : Res Va :=
  if h.length ≤ h'.length ∧ keptB h h' then
    match w with
    | .ref k => if k < h.length then .ok w (h'.take h.length) else match h'[k]? with
      | some c => if c.low h.length = true then .ok (.ref h.length) (h'.take h.length ++ [c]) else .ok w h'
      | none => .ok w h'
    | w => if w.low h.length = true then .ok w (h'.take h.length) else .ok w h'
  else .ok w h'
noncomputable def gcR (h : Hm) (r : Res Va) : Res Va := r.bind fun w h' => gc h w h'
/-! ### a dict's keys, tuples of ints -/
def kdVa (k : List Int) : Va := .tup (k.map .int)
def putKd (ks : List (List Int)) (k : List Int) : List (List Int) := if k ∈ ks then ks else ks ++ [k]
/-! ### pairs of ints, sorted -/
def pairVa (p : Int × Int) : Va := .tup [.int p.1, .int p.2]
def pairV : Va → Option (Int × Int)
  | .tup [.int i, .int j] => some (i, j)
  | _ => none
theorem pairV_ok {w : Va} {p : Int × Int} (e : pairV w = some p) : w = pairVa p := by
  unfold pairV at e
  split at e
  · cases e; rfl
  · cases e
def ltPr (p q : Int × Int) : Bool := decide (p.1 < q.1 ∨ (p.1 = q.1 ∧ p.2 < q.2))
def insP (a : Int × Int) : List (Int × Int) → List (Int × Int)
  | [] => [a]
  | b :: l => if ltPr b a = true then b :: insP a l else a :: b :: l
def sortP : List (Int × Int) → List (Int × Int)
  | [] => []
  | a :: l => insP a (sortP l)
theorem insP_perm (a : Int × Int) : ∀ l, (insP a l).Perm (a :: l)
  | [] => .refl _
  | b :: l => by
    unfold insP
    split
    · exact ((insP_perm a l).cons b).trans (.swap a b l)
    · exact .refl _
theorem sortP_perm : ∀ l, (sortP l).Perm l
  | [] => .refl _
  | a :: l => (insP_perm a _).trans ((sortP_perm l).cons a)
abbrev SortedP (l : List (Int × Int)) : Prop := l.Pairwise fun p q => ltPr q p = false
theorem insP_sorted (a : Int × Int) : ∀ {l}, SortedP l → SortedP (insP a l)
  | [], _ => List.pairwise_singleton _ _
  | b :: l, h => by
    obtain ⟨h1, h2⟩ := List.pairwise_cons.mp h
    unfold insP
    split
    · rename_i c
      refine List.pairwise_cons.mpr ⟨fun q hq => ?_, insP_sorted a h2⟩
      rcases List.mem_cons.mp ((insP_perm a l).mem_iff.mp hq) with e | hq
      · subst e
        unfold ltPr at c ⊢
        simp only [decide_eq_true_eq, decide_eq_false_iff_not] at c ⊢
        omega
      · exact h1 q hq
    · rename_i c
      refine List.pairwise_cons.mpr ⟨fun q hq => ?_, h⟩
      have c' : ltPr b a = false := by simpa using c
      rcases List.mem_cons.mp hq with e | hq
      · subst e
        exact c'
      · have z := h1 q hq
        unfold ltPr at c' z ⊢
        simp only [decide_eq_false_iff_not] at c' z ⊢
        omega
theorem sortP_sorted : ∀ l, SortedP (sortP l)
  | [] => .nil
  | a :: l => insP_sorted a (sortP_sorted l)
theorem sortP_unique {l m : List (Int × Int)} (h : SortedP m) (p : m.Perm l) : m = sortP l := by
  refine List.Perm.eq_of_pairwise (le := fun p q => ltPr q p = false) (fun a b _ _ h1 h2 => ?_) h (sortP_sorted l) (p.trans (sortP_perm l).symm)
  unfold ltPr at h1 h2
  simp only [decide_eq_false_iff_not] at h1 h2
  exact Prod.ext (by omega) (by omega)
/-! ### texts, sorted; keys -/
def insS (a : Str) : List Str → List Str
  | [] => [a]
  | b :: l => if PySem.Spec.ltCps b.cps.toList a.cps.toList = true then b :: insS a l else a :: b :: l
def sortS : List Str → List Str
  | [] => []
  | a :: l => insS a (sortS l)
def addTx (l : List Str) (x : Str) : List Str := if x ∈ l then l else l ++ [x]
def addAll : List Str → List Str → List Str
  | [], l => l
  | x :: r, l => addAll r (addTx l x)
/-- a dict's key: an int or a text -/
def keyV : Va → Option (L2.Key)
  | .int i => some (.inl i)
  | .str x => some (.inr x)
  | _ => none
def addKey (l : List L2.Key) (k : L2.Key) : List L2.Key := if (l.any fun y => decide (y = k)) = true then l else l ++ [k]
def keyTxs : List (L2.Key) → Option (List Str)
  | [] => some []
  | .inr x :: r => (keyTxs r).map (x :: ·)
  | .inl _ :: _ => none
/-! ### the small language -/
inductive Op where | add | sub | mul | fdiv | mod | pow
inductive Cp where | eq | ne | lt | le | gt | ge | is | isnot | inn | notin
/-- built-in functions and types that are called -/
inductive Bi where | len | abs | int | str | sum | min | max | tuple | list | all | any | isinst | repr | sorted
  | lrange
  | listd
/-- what is walked alone -/
inductive Wk where | rng | zip2 | zip3 | enum
/-- methods of built-in types -/
inductive Me where | append | extend | pop | popAt | insert | join | split | zfill
inductive Tg where
  | nm (i : Nat)
  | tup (ts : List Tg)
mutual
inductive Xp where
  | var (i : Nat)
  | cst (w : Va)
  | glob (k : Nat) (x : Str)
  | bin (o : Op) (a b : Xp)
  | neg (a : Xp)
  | not (a : Xp)
  | and (a b : Xp)
  | or (a b : Xp)
  | cmp (o : Cp) (a b : Xp)
  | cmp2 (o p : Cp) (a b c : Xp)
  | ife (c a b : Xp)
  | tup (es : Xs)
  | lst (es : Xs)
  | idx (a b : Xp)
  | slc (a : Xp) (lo hi : Xo)
  | slcs (a : Xp) (lo hi : Xo) (st : Xp)
  | call (k : Nat) (f : Str) (es : Xs)
  | callk (k : Nat) (f : Str) (ks : List Str) (es fs : Xs)
  | bi (f : Bi) (es : Xs)
  | me (m : Me) (o : Xp) (es : Xs)
  | lc (own : List Nat) (elt : Xp) (t : Tg) (it : It') (ifs : Xo)
  | sdp (own : List Nat) (key : Xp) (t : Tg) (it : It')
  | sds (own : List Nat) (key : Xp) (t : Tg) (it : It')
  | ldi (own : List Nat) (key : Xp) (t : Tg) (it : It')
  | sss (e : Xp)
  | lc2 (own : List Nat) (elt : Xp) (t : Tg) (it : It') (vs1 : List Nat) (t1 : Tg) (it1 : It')
  | gc (e : Xp)
  | dnew
inductive Xs where
  | nil
  | cons (e : Xp) (r : Xs)
  | star (e : Xp) (r : Xs)
inductive Xo where
  | none
  | some (e : Xp)
inductive It' where
  | seq (e : Xp)
  | of (f : Wk) (es : Xs)
end
mutual
inductive Sm where
  | ret (e : Xp)
  | retN
  | set (t : Tg) (e : Xp)
  | setIx (o i e : Xp)
  | dput (o : Xp) (es : Xs)
  | expr (e : Xp)
  | ife (c : Xp) (a b : Ss)
  | whl (c : Xp) (b : Ss)
  | for (t : Tg) (it : It') (b : Ss)
  | pass
  | cont
  | brk
  | never
inductive Ss where
  | nil
  | cons (s : Sm) (r : Ss)
end
/-! ### what operators do -/
/-- a slice's items -/
def cutL {α : Type} (xs : List α) (lo hi : Option Int) : List α := (xs.drop (HT.sIx xs.length 0 lo)).take (HT.sIx xs.length xs.length hi - HT.sIx xs.length 0 lo)
/-- the items of xs[lo:hi:st] -/
def stepT {α : Type} (xs : List α) (lo hi : Option Int) (st : Int) : List α :=
  (List.range (Builtin.Slice.slicePlaces (Builtin.Slice.sliceAdjust lo hi st xs.length).1 (Builtin.Slice.sliceAdjust lo hi st xs.length).2 st)).filterMap fun (m : Nat) => xs[((Builtin.Slice.sliceAdjust lo hi st xs.length).1 + (m : Int) * st).toNat]?
def atI {α : Type} (xs : List α) (i : Int) : Option α := (L2.ixN xs.length i).bind fun j => xs[j]?
abbrev mulOk (i j : Int) : Prop := i.natAbs.log2 + j.natAbs.log2 < 134000000
abbrev divOk (i j : Int) : Prop := j ≠ 0 ∧ j.natAbs.log2 < 8900
def seqAt (h : Hm) (n : Nat) : Option (List Va) := match h[n]? with
  | some (.lst ws) => some ws
  | some (.frz ws) => some ws
  | _ => none
def truth (h : Hm) : Va → Option Bool
  | .non => some false
  | .bl b => some b
  | .int i => some (i != 0)
  | .str x => if x.length ≤ sizeLine then some ((x.length : Int) != 0) else none
  | .tup ws => some (!ws.isEmpty)
  | .ref n => (seqAt h n).map fun ws => !ws.isEmpty
  | _ => none
section
def addV : Va → Va → Hm → Res Va
  | .int i, .int j, h => .ok (.int (i + j)) h
  | .str a, .str b, h => if a.length + b.length ≤ sizeLine then .ok (.str (a ++ b)) h else .bad
  | .tup a, .tup b, h => if a.length + b.length ≤ sizeLine then .ok (.tup (a ++ b)) h else .bad
  | .ref m, .ref n, h => match h[m]?, h[n]? with
    | some (.lst a), some (.lst b) => if a.length + b.length ≤ sizeLine then .ok (.ref h.length) (h ++ [.lst (a ++ b)]) else .bad
    | _, _ => .bad
  | _, _, _ => .bad
def mulV : Va → Va → Hm → Res Va
  | .int i, .int j, h => if mulOk i j then .ok (.int (i * j)) h else .bad
  | .tup a, .int k, h => if a.isEmpty = false ∧ 2 ≤ k ∧ k ≤ 1000 ∧ a.length ≤ 1000 then .ok (.tup (List.replicate k.toNat a).flatten) h else .bad
  | _, _, _ => .bad
def subV : Va → Va → Hm → Res Va
  | .int i, .int j, h => .ok (.int (i - j)) h
  | _, _, _ => .bad
def fdivV : Va → Va → Hm → Res Va
  | .int i, .int j, h => if divOk i j then .ok (.int (i.fdiv j)) h else .bad
  | _, _, _ => .bad
def modV : Va → Va → Hm → Res Va
  | .int i, .int j, h => if j ≠ 0 then .ok (.int (i.fmod j)) h else .bad
  | _, _, _ => .bad
def powV : Va → Va → Hm → Res Va
  | .int i, .int j, h => if 0 ≤ j ∧ (Builtin.Int.intBits i : Int) * j ≤ 2 ^ 27 then .ok (.int (i ^ j.toNat)) h else .bad
  | _, _, _ => .bad
def binV : Op → Va → Va → Hm → Res Va
  | .add => addV
  | .sub => subV
  | .mul => mulV
  | .fdiv => fdivV
  | .mod => modV
  | .pow => powV
/-- == of data -/
def eqP (h : Hm) (a b : Va) : Option Bool := match dat h a, dat h b with
  | some d, some e => if SeqAt.shaped d = true ∧ SeqAt.shaped e = true then some (PyData.eqv d e) else none
  | _, _ => none
def inP (h : Hm) (a b : Va) : Option Bool := match a, b with
  | .str x, .str y => match x.cps.toList with
    | [c] => some (decide (c ∈ y.cps.toList))
    | _ => none
  | a, .ref n => match dat h a, dat h (.ref n) with
    | some d, some (.list ds) => if SeqAt.shaped d = true ∧ SeqAt.shaped (.list ds) = true then some (ds.any fun z => PyData.eqv z d) else none
    | _, _ => none
  | a, .tup ws => match dat h a, Va.dats (datH h 3) ws with
    | some d, some ds => if SeqAt.shaped d = true ∧ SeqAt.shaped (.tuple ds) = true then some (ds.any fun z => PyData.eqv z d) else none
    | _, _ => none
  | _, _ => none
def isNon : Va → Bool
  | .non => true
  | _ => false
def isP : Va → Va → Option Bool
  | .bl c, .bl d => some (c == d)
  | a, .non => some (isNon a)
  | _, _ => none
def intP : Va → Va → Option (Int × Int)
  | .int i, .int j => some (i, j)
  | _, _ => none
def cmpP (h : Hm) : Cp → Va → Va → Option Bool
  | .eq, a, b => eqP h a b
  | .ne, a, b => (eqP h a b).map (!·)
  | .lt, a, b => (intP a b).map fun p => decide (p.1 < p.2)
  | .le, a, b => (intP a b).map fun p => decide (p.1 ≤ p.2)
  | .gt, a, b => (intP a b).map fun p => decide (p.2 < p.1)
  | .ge, a, b => (intP a b).map fun p => decide (p.2 ≤ p.1)
  | .is, a, b => isP a b
  | .isnot, a, b => (isP a b).map (!·)
  | .inn, a, b => inP h a b
  | .notin, a, b => (inP h a b).map (!·)
def ofB (h : Hm) : Option Bool → Res Va
  | some b => .ok (.bl b) h
  | none => .bad
def idxV : Va → Va → Hm → Res Va
  | .tup ws, .int i, h => match atI ws i with
    | some w => .ok w h
    | none => .bad
  | .ref n, .int i, h => match (seqAt h n).bind fun ws => atI ws i with
    | some w => .ok w h
    | none => .bad
  | .str x, .int i, h => if x.length ≤ sizeLine then (match atI x.cps.toList i with
    | some c => .ok (.str ⟨#[c]⟩) h
    | none => .bad) else .bad
  | _, _, _ => .bad
def slcV (lo hi : Option Int) : Va → Hm → Res Va
  | .tup ws, h => .ok (.tup (cutL ws lo hi)) h
  | .ref n, h => match seqAt h n with
    | some ws => .ok (.ref h.length) (h ++ [.lst (cutL ws lo hi)])
    | none => .bad
  | .str x, h => if x.length ≤ sizeLine then .ok (.str ⟨(cutL x.cps.toList lo hi).toArray⟩) h else .bad
  | _, _ => .bad
end
end Vy
set_option maxHeartbeats 200000
/-! the evaluator -/
namespace Vy
open PySem
section
def lenV (h : Hm) : Va → Option Nat
  | .tup ws => some ws.length
  | .str x => if x.length ≤ sizeLine then some x.length else none
  | .ref n => (seqAt h n).map List.length
  | _ => none
def intsV : List Va → Option (List Int)
  | [] => some []
  | .int i :: r => (intsV r).map (i :: ·)
  | _ :: _ => none
def boolsV : List Va → Option (List Bool)
  | [] => some []
  | .bl b :: r => (boolsV r).map (b :: ·)
  | _ :: _ => none
def strsV : List Va → Option (List Str)
  | [] => some []
  | .str x :: r => (strsV r).map (x :: ·)
  | _ :: _ => none
/-- the items of a list or a tuple -/
def itemsV (h : Hm) : Va → Option (List Va)
  | .tup ws => some ws
  | .ref n => seqAt h n
  | _ => none
/-- a range's items -/
abbrev rngOk (i : Int) : Prop := -(2 ^ 62) ≤ i ∧ i < 2 ^ 62
def rng1L (j : Int) : List Va := (List.range j.toNat).map fun (k : Nat) => .int (k : Int)
def rng2L (i j : Int) : List Va := (List.range (j - i).toNat).map fun (k : Nat) => .int (i + (k : Int))
def rng3L (i j c : Int) : List Va := (List.range (Builtin.Range.rangeSize i j c).toNat).map fun (k : Nat) => .int (i + (k : Int) * c)
abbrev rng3Ok (i j c : Int) : Prop := c ≠ 0 ∧ c.natAbs < 1073741824 ∧ Builtin.Range.small i j c = true ∧ 0 ≤ Builtin.Range.rangeSize i j c
def rngV : List Va → Option (List Va)
  | [.int j] => if rngOk j then some (rng1L j) else none
  | [.int i, .int j] => if rngOk i ∧ rngOk j then some (rng2L i j) else none
  | [.int i, .int j, .int c] => if rng3Ok i j c then some (rng3L i j c) else none
  | _ => none
/-- isinstance against a built-in class -/
def tyRel (t n : String) : Bool := t == n || t == "bool" && n == "int"
def isTy (h : Hm) (w : Va) (n : String) : Option Bool := match w with
  | .non => some (tyRel "NoneType" n)
  | .bl _ => some (tyRel "bool" n)
  | .int _ => some (tyRel "int" n)
  | .str _ => some (tyRel "str" n)
  | .tup _ => some (tyRel "tuple" n)
  | .ref k => (seqAt h k).map fun _ => tyRel "list" n
  | _ => none
def tyNames : List String := ["int", "bool", "str", "tuple", "list", "dict"]
def tyOk (n : String) : Bool := tyNames.contains n
/-- repr's text -/
def reprV (h : Hm) (w : Va) : Option Str := match dat h w with
  | some d => if d.showable = true ∧ d.hasDict = false ∧ d.depth ≤ 100 ∧ d.shown.length + 64 ≤ sizeLine then some d.shown else none
  | none => none
def newL (h : Hm) (ws : List Va) : Res Va := if ws.length ≤ sizeLine then .ok (.ref h.length) (h ++ [.lst ws]) else .bad
def ofO (h : Hm) : Option Va → Res Va
  | some w => .ok w h
  | none => .bad
def stepV (lo hi : Option Int) (st : Int) : Va → Hm → Res Va
  | .tup ws, h => if st ≠ 0 ∧ st ≠ 1 ∧ (stepT ws lo hi st).length ≤ sizeLine then .ok (.tup (stepT ws lo hi st)) h else .bad
  | .ref n, h => match seqAt h n with
    | some ws => if lo = none ∧ hi = none ∧ st = -1 then newL h ws.reverse else .bad
    | none => .bad
  | _, _ => .bad
def biV : Bi → List Va → Hm → Res Va
  | .len, [w], h => ofO h ((lenV h w).map fun (n : Nat) => Va.int (n : Int))
  | .abs, [.int i], h => .ok (.int (if i < 0 then -i else i)) h
  | .int, [.int i], h => .ok (.int i) h
  | .int, [.bl b], h => .ok (.int (if b then 1 else 0)) h
  | .int, [.str x], h => match PySem.intText? x with
    | some n => if x.length ≤ 640 then .ok (.int n) h else .bad
    | none => .bad
  | .str, [.int i], h => if i.natAbs.log2 < 1920 then .ok (.str (toString i : String)) h else .bad
  | .str, [.str x], h => .ok (.str x) h
  | .sum, [.ref n], h => ofO h (((seqAt h n).bind intsV).map fun l => .int l.sum)
  | .min, [.int i, .int j], h => .ok (.int (if j < i then j else i)) h
  | .max, [.int i, .int j], h => .ok (.int (if j > i then j else i)) h
  | .min, [.ref n], h => match (seqAt h n).bind intsV with
    | some (i :: l) => .ok (.int (l.foldl (fun a b => if b < a then b else a) i)) h
    | _ => .bad
  | .max, [.ref n], h => match (seqAt h n).bind intsV with
    | some (i :: l) => .ok (.int (l.foldl (fun a b => if b > a then b else a) i)) h
    | _ => .bad
  | .tuple, [w], h => ofO h ((itemsV h w).map .tup)
  | .list, [w], h => match itemsV h w with
    | some ws => newL h ws
    | none => .bad
  | .all, [.ref n], h => ofO h (((seqAt h n).bind boolsV).map fun l => .bl (l.all id))
  | .any, [.ref n], h => ofO h (((seqAt h n).bind boolsV).map fun l => .bl (l.any id))
  | .isinst, [w, .ty n], h => if tyOk n = true then ofO h ((isTy h w n).map .bl) else .bad
  | .repr, [w], h => ofO h ((reprV h w).map .str)
  | .lrange, ws, h => match rngV ws with
    | some l => newL h l
    | none => .bad
  | .listd, [.ref n], h => match h[n]? with
    | some (.kd ks) => newL h (ks.map kdVa)
    | _ => .bad
  | _, _, _ => .bad
def meV : Me → Va → List Va → Hm → Res Va
  | .append, .ref n, [w], h => match h[n]? with
    | some (.lst ws) => if ws.length < sizeLine then .ok .non (h.set n (.lst (ws ++ [w]))) else .bad
    | _ => .bad
  | .extend, .ref n, [.ref m], h => match h[n]?, h[m]? with
    | some (.lst ws), some (.lst us) => if ws.length + us.length ≤ sizeLine ∧ n ≠ m then .ok .non (h.set n (.lst (ws ++ us))) else .bad
    | _, _ => .bad
  | .pop, .ref n, [], h => match h[n]? with
    | some (.lst ws) => match ws.getLast? with
      | some w => .ok w (h.set n (.lst ws.dropLast))
      | none => .bad
    | _ => .bad
  | .popAt, .ref n, [.int i], h => match h[n]? with
    | some (.lst ws) => if 0 ≤ i then (match ws[i.toNat]? with
      | some w => .ok w (h.set n (.lst (ws.eraseIdx i.toNat)))
      | none => .bad) else .bad
    | _ => .bad
  | .insert, .ref n, [.int i, w], h => match h[n]? with
    | some (.lst ws) => if 0 ≤ i ∧ i < 2 ^ 62 ∧ ws.length < sizeLine then .ok .non (h.set n (.lst (ws.take i.toNat ++ [w] ++ ws.drop i.toNat))) else .bad
    | _ => .bad
  | .join, .str s, [.ref n], h => match (seqAt h n).bind strsV with
    | some l => if (l.map (·.length)).sum + l.length * s.length ≤ sizeLine then .ok (.str (Txt.join s l)) h else .bad
    | none => .bad
  | .split, .str x, [.str s], h => if (s.length == 0) = false ∧ x.length + 2 ≤ sizeLine then newL h ((Txt.split x s).map .str) else .bad
  | .zfill, .str x, [.int i], h => if PadOk i = true then .ok (.str (Txt.zfill x i)) h else .bad
  | _, _, _, _ => .bad
def Me.ofStr : Me → Bool
  | .join => true
  | .split => true
  | .zfill => true
  | _ => false
/-- the receiver is one that has the method -/
def recOk (m : Me) (x : Va) (h : Hm) : Bool := match x with
  | .str _ => m.ofStr
  | .ref n => !m.ofStr && (seqAt h n).isSome
  | _ => false
/-! ### slots -/
def getS (σ : Sg) (i : Nat) : Option Va := (σ[i]?).join
def wipeS (σ : Sg) : List Nat → Sg
  | [] => σ
  | v :: vs => (wipeS σ vs).set v none
mutual
def setT : Tg → Va → Sg → Option Sg
  | .nm i, w, σ => some (σ.set i (some w))
  | .tup ts, w, σ => match w with
    | .tup ws => setTs ts ws σ
    | _ => none
def setTs : List Tg → List Va → Sg → Option Sg
  | [], [], σ => some σ
  | t :: ts, w :: ws, σ => match setT t w σ with
    | some σ1 => setTs ts ws σ1
    | none => none
  | _, _, _ => none
end
/-! ### what is walked: the items, and the lists that must stay as they are -/
structure Src where
  items : List Va
  held : List (Nat × Ce)
def heldOk (g : List (Nat × Ce)) (h : Hm) : Prop := ∀ p ∈ g, h[p.1]? = some p.2
def srcV (h : Hm) : Va → Option Src
  | .tup ws => some ⟨ws, []⟩
  | .str x => if x.length ≤ sizeLine then some ⟨x.cps.toList.map fun c => .str ⟨#[c]⟩, []⟩ else none
  | .ref n => match h[n]? with
    | some (.lst ws) => some ⟨ws, [(n, .lst ws)]⟩
    | some (.frz ws) => some ⟨ws, [(n, .frz ws)]⟩
    | _ => none
  | _ => none
/-- a list or a tuple -/
def srcK (h : Hm) : Va → Option Src
  | .tup ws => some ⟨ws, []⟩
  | .ref n => match h[n]? with
    | some (.lst ws) => some ⟨ws, [(n, .lst ws)]⟩
    | some (.frz ws) => some ⟨ws, [(n, .frz ws)]⟩
    | _ => none
  | _ => none
def zipL : List Va → List Va → List Va
  | a :: r, b :: s => .tup [a, b] :: zipL r s
  | _, _ => []
def zip3L : List Va → List Va → List Va → List Va
  | a :: r, b :: s, c :: t => .tup [a, b, c] :: zip3L r s t
  | _, _, _ => []
def enumL : Nat → List Va → List Va
  | _, [] => []
  | n, a :: r => .tup [.int (n : Int), a] :: enumL (n + 1) r
def zip2V : List Va → Hm → Option Src
  | [a, b], h => match srcK h a, srcK h b with
    | some s, some t => some ⟨zipL s.items t.items, s.held ++ t.held⟩
    | _, _ => none
  | _, _ => none
def zip3V : List Va → Hm → Option Src
  | [a, b, c], h => match srcK h a, srcK h b, srcK h c with
    | some s, some t, some u => some ⟨zip3L s.items t.items u.items, s.held ++ (t.held ++ u.held)⟩
    | _, _, _ => none
  | _, _ => none
def enumV : List Va → Hm → Option Src
  | [a], h => (srcK h a).map fun s => ⟨enumL 0 s.items, s.held⟩
  | _, _ => none
def iterV : Wk → List Va → Hm → Option Src
  | .rng => fun ws _ => (rngV ws).map fun l => ⟨l, []⟩
  | .zip2 => zip2V
  | .zip3 => zip3V
  | .enum => enumV
end
noncomputable section
open Classical
/-! ### turns -/
inductive Fl where
  | nx (σ : Sg)
  | rt (w : Va)
  | ct (σ : Sg)
  | bk (σ : Sg)
/-- a for loop's turns; body: from the slots behind the target -/
def forL (g : List (Nat × Ce)) (t : Tg) (body : Sg → Hm → Res Fl) : List Va → Sg → Hm → Res Fl
  | [], σ, h => if heldOk g h then .ok (.nx σ) h else .bad
  | w :: ws, σ, h => if heldOk g h then match setT t w σ with
    | some σ1 => (body σ1 h).bind fun f h1 => match f with
      | .nx σ2 => forL g t body ws σ2 h1
      | .ct σ2 => forL g t body ws σ2 h1
      | .bk σ2 => .ok (.nx σ2) h1
      | .rt w => .ok (.rt w) h1
    | none => .bad else .bad
/-- a comprehension's turns; the new list stands at place n -/
def compL (n : Nat) (g : List (Nat × Ce)) (t : Tg) (test : Sg → Hm → Res Bool) (elt : Sg → Hm → Res Va) (σ : Sg) : List Va → Hm → Res Unit
  | [], h => if heldOk g h then .ok () h else .bad
  | w :: ws, h => if heldOk g h then match setT t w σ with
    | some σ1 => (test σ1 h).bind fun b h1 => if b = true then (elt σ1 h1).bind fun x h2 => (match h2[n]? with
        | some (.lst acc) => if acc.length < sizeLine then compL n g t test elt σ ws (h2.set n (.lst (acc ++ [x]))) else .bad
        | _ => .bad)
      else compL n g t test elt σ ws h1
    | none => .bad else .bad
/-- a comprehension of two clauses -/
def compL2 (n : Nat) (g : List (Nat × Ce)) (t : Tg) (src1 : Sg → Hm → Res Src) (vs1 : List Nat) (t1 : Tg) (elt : Sg → Hm → Res Va) (σ : Sg) : List Va → Hm → Res Unit
  | [], h => if heldOk g h then .ok () h else .bad
  | w :: ws, h => if heldOk g h then match setT t w σ with
    | some σ1 => (src1 σ1 h).bind fun s1 h1 => (compL n s1.held t1 (fun _ h2 => .ok true h2) elt (wipeS σ1 vs1) s1.items h1).bind fun _ h2 => compL2 n g t src1 vs1 t1 elt σ ws h2
    | none => .bad else .bad
/-- {key: True for ..}: the distinct keys, pairs of ints, in their order -/
def sdL (g : List (Nat × Ce)) (t : Tg) (key : Sg → Hm → Res Va) (σ : Sg) : List Va → List (Int × Int) → Hm → Res (List (Int × Int))
  | [], acc, h => if heldOk g h then .ok acc h else .bad
  | w :: ws, acc, h => if heldOk g h then match setT t w σ with
    | some σ1 => (key σ1 h).bind fun x h1 => match pairV x with
      | some p => if acc.length < sizeLine then sdL g t key σ ws (if p ∈ acc then acc else acc ++ [p]) h1 else .bad
      | none => .bad
    | none => .bad else .bad
/-- {key: True for ..}: the distinct keys, ints or texts, in their order -/
def dcL (g : List (Nat × Ce)) (t : Tg) (key : Sg → Hm → Res Va) (σ : Sg) : List Va → List (L2.Key) → Hm → Res (List (L2.Key))
  | [], acc, h => if heldOk g h then .ok acc h else .bad
  | w :: ws, acc, h => if heldOk g h then match setT t w σ with
    | some σ1 => (key σ1 h).bind fun x h1 => match keyV x with
      | some k => if acc.length < sizeLine then dcL g t key σ ws (addKey acc k) h1 else .bad
      | none => .bad
    | none => .bad else .bad
/-- sorted(set(list of texts)) -/
def sssV (x : Va) (h : Hm) : Res Va := match x with
  | .ref n => match (seqAt h n).bind strsV with
    | some xs => if xs.length < 64 then newL h ((sortS (addAll xs [])).map .str) else .bad
    | none => .bad
  | _ => .bad
def sdsV (acc : List (L2.Key)) (h : Hm) : Res Va := match keyTxs acc with
  | some xs => if xs.length < 64 then newL h ((sortS xs).map .str) else .bad
  | none => .bad
/-- a while's turns, by fuel -/
def whileF (c : Sg → Hm → Res Bool) (body : Sg → Hm → Res Fl) : Nat → Sg → Hm → Option (Res Fl)
  | 0, _, _ => none
  | n + 1, σ, h => match c σ h with
    | .ok true h1 => match body σ h1 with
      | .ok (.nx σ2) h2 => whileF c body n σ2 h2
      | .ok (.ct σ2) h2 => whileF c body n σ2 h2
      | .ok (.bk σ2) h2 => some (.ok (.nx σ2) h2)
      | .ok (.rt w) h2 => some (.ok (.rt w) h2)
      | .exc k v h2 => some (.exc k v h2)
      | .bad => some .bad
    | .ok false h1 => some (.ok (.nx σ) h1)
    | .exc k v h1 => some (.exc k v h1)
    | .bad => some .bad
def whileR (c : Sg → Hm → Res Bool) (body : Sg → Hm → Res Fl) (σ : Sg) (h : Hm) : Res Fl :=
  if e : ∃ n, (whileF c body n σ h).isSome = true then ((whileF c body e.choose σ h).getD .bad) else .bad
theorem whileF_mono {c : Sg → Hm → Res Bool} {body : Sg → Hm → Res Fl} : ∀ {n m : Nat} {σ : Sg} {h : Hm} {r : Res Fl}, n ≤ m → whileF c body n σ h = some r → whileF c body m σ h = some r
  | 0, _, _, _, _, _, e => by cases e
  | n + 1, 0, _, _, _, l, _ => absurd l (by omega)
  | n + 1, m + 1, σ, h, r, l, e => by
    have l' : n ≤ m := by omega
    unfold whileF at e ⊢
    cases hc : c σ h with
    | ok b h1 =>
      rw [hc] at e
      cases b with
      | false => exact e
      | true =>
        cases hb : body σ h1 with
        | ok f h2 =>
          simp only [hb] at e ⊢
          cases f with
          | nx σ2 => exact whileF_mono l' e
          | ct σ2 => exact whileF_mono l' e
          | bk σ2 => exact e
          | rt w => exact e
        | exc k v h2 => simp only [hb] at e ⊢; exact e
        | bad => simp only [hb] at e ⊢; exact e
    | exc k v h1 => simp only [hc] at e ⊢; exact e
    | bad => simp only [hc] at e ⊢; exact e
theorem whileR_of {c : Sg → Hm → Res Bool} {body : Sg → Hm → Res Fl} {n : Nat} {σ : Sg} {h : Hm} {r : Res Fl} (e : whileF c body n σ h = some r) : whileR c body σ h = r := by
  have ex : ∃ n, (whileF c body n σ h).isSome = true := ⟨n, by rw [e]; rfl⟩
  unfold whileR
  rw [dif_pos ex]
  have hs := ex.choose_spec
  obtain ⟨r', e'⟩ := Option.isSome_iff_exists.mp hs
  have a := whileF_mono (Nat.le_max_left n ex.choose) e
  have b := whileF_mono (Nat.le_max_right n ex.choose) e'
  rw [a] at b
  rw [e', ← Option.some.inj b]
  rfl
theorem whileR_some {c : Sg → Hm → Res Bool} {body : Sg → Hm → Res Fl} {σ : Sg} {h : Hm} {f : Fl} {h' : Hm} (e : whileR c body σ h = .ok f h') : ∃ n, whileF c body n σ h = some (.ok f h') := by
  unfold whileR at e
  split at e
  · rename_i ex
    obtain ⟨r', e'⟩ := Option.isSome_iff_exists.mp ex.choose_spec
    rw [e'] at e
    exact ⟨_, e'.trans (congrArg some e)⟩
  · cases e
/-! ### the evaluator; call: the program's own functions; gv: the module's constants -/
structure Ev where
  call : Str → List Va → Hm → Res Va
  gv : Str → Option Va
def truR (r : Res Va) : Res Bool := r.bind fun w h => match truth h w with
  | some b => .ok b h
  | none => .bad
mutual
def eX (Γ : Ev) : Xp → Sg → Hm → Res Va
  | .var i, σ, h => ofO h (getS σ i)
  | .cst w, _, h => .ok w h
  | .glob _ x, _, h => ofO h (Γ.gv x)
  | .bin o a b, σ, h => (eX Γ a σ h).bind fun x h1 => (eX Γ b σ h1).bind fun y h2 => binV o x y h2
  | .neg a, σ, h => (eX Γ a σ h).bind fun x h1 => match x with
    | .int i => .ok (.int (-i)) h1
    | _ => .bad
  | .not a, σ, h => (truR (eX Γ a σ h)).bind fun b h1 => .ok (.bl (!b)) h1
  | .and a b, σ, h => (eX Γ a σ h).bind fun x h1 => match truth h1 x with
    | some true => eX Γ b σ h1
    | some false => .ok x h1
    | none => .bad
  | .or a b, σ, h => (eX Γ a σ h).bind fun x h1 => match truth h1 x with
    | some true => .ok x h1
    | some false => eX Γ b σ h1
    | none => .bad
  | .cmp o a b, σ, h => (eX Γ a σ h).bind fun x h1 => (eX Γ b σ h1).bind fun y h2 => ofB h2 (cmpP h2 o x y)
  | .cmp2 o p a b c, σ, h => (eX Γ a σ h).bind fun x h1 => (eX Γ b σ h1).bind fun y h2 => match cmpP h2 o x y with
    | some true => (eX Γ c σ h2).bind fun z h3 => ofB h3 (cmpP h3 p y z)
    | some false => .ok (.bl false) h2
    | none => .bad
  | .ife c a b, σ, h => (truR (eX Γ c σ h)).bind fun t h1 => if t = true then eX Γ a σ h1 else eX Γ b σ h1
  | .tup es, σ, h => (eXs Γ es σ h).bind fun ws h1 => if ws.length ≤ sizeLine then .ok (.tup ws) h1 else .bad
  | .lst es, σ, h => (eXs Γ es σ h).bind fun ws h1 => newL h1 ws
  | .idx a b, σ, h => (eX Γ a σ h).bind fun x h1 => (eX Γ b σ h1).bind fun y h2 => idxV x y h2
  | .slc a lo hi, σ, h => (eX Γ a σ h).bind fun x h1 => (eXo Γ lo σ h1).bind fun l h2 => (eXo Γ hi σ h2).bind fun u h3 => slcV l u x h3
  | .slcs a lo hi st, σ, h => (eX Γ a σ h).bind fun x h1 => (eXo Γ lo σ h1).bind fun l h2 => (eXo Γ hi σ h2).bind fun u h3 => (eX Γ st σ h3).bind fun k h4 => match k with
    | .int i => stepV l u i x h4
    | _ => .bad
  | .call _ f es, σ, h => (eXs Γ es σ h).bind fun ws h1 => gcR h1 (Γ.call f ws h1)
  | .callk _ f _ es fs, σ, h => (eXs Γ es σ h).bind fun ws h1 => (eXs Γ fs σ h1).bind fun us h2 => gcR h2 (Γ.call f (ws ++ us) h2)
  | .bi f es, σ, h => (eXs Γ es σ h).bind fun ws h1 => biV f ws h1
  | .me m o es, σ, h => (eX Γ o σ h).bind fun x h1 => if recOk m x h1 = true then (eXs Γ es σ h1).bind fun ws h2 => meV m x ws h2 else .bad
  | .lc own elt t it ifs, σ, h => (eIt Γ it σ h).bind fun s h1 =>
      (compL h1.length s.held t (fun σ1 h2 => eIf Γ ifs σ1 h2) (fun σ1 h2 => eX Γ elt σ1 h2) (wipeS σ own) s.items (h1 ++ [.lst []])).bind fun _ h2 => .ok (.ref h1.length) h2
  | .sdp own key t it, σ, h => (eIt Γ it σ h).bind fun s h1 => (sdL s.held t (fun σ1 h2 => eX Γ key σ1 h2) (wipeS σ own) s.items [] h1).bind fun acc h2 => newL h2 ((sortP acc).map pairVa)
  | .sds own key t it, σ, h => (eIt Γ it σ h).bind fun s h1 => (dcL s.held t (fun σ1 h2 => eX Γ key σ1 h2) (wipeS σ own) s.items [] h1).bind fun acc h2 => sdsV acc h2
  | .ldi own key t it, σ, h => (eIt Γ it σ h).bind fun s h1 => (dcL s.held t (fun σ1 h2 => eX Γ key σ1 h2) (wipeS σ own) s.items [] h1).bind fun acc h2 => .ok (.int (acc.length : Nat)) h2
  | .sss e, σ, h => (eX Γ e σ h).bind fun x h1 => sssV x h1
  | .lc2 own elt t it vs1 t1 it1, σ, h => (eIt Γ it σ h).bind fun s h1 =>
      (compL2 h1.length s.held t (fun σ1 h2 => eIt Γ it1 σ1 h2) vs1 t1 (fun σ1 h2 => eX Γ elt σ1 h2) (wipeS σ own) s.items (h1 ++ [.lst []])).bind fun _ h2 => .ok (.ref h1.length) h2
  | .gc e, σ, h => gcR h (eX Γ e σ h)
  | .dnew, _, h => .ok (.ref h.length) (h ++ [.kd []])
def eXs (Γ : Ev) : Xs → Sg → Hm → Res (List Va)
  | .nil, _, h => .ok [] h
  | .cons e r, σ, h => (eX Γ e σ h).bind fun x h1 => (eXs Γ r σ h1).bind fun xs h2 => .ok (x :: xs) h2
  | .star e r, σ, h => (eX Γ e σ h).bind fun x h1 => match itemsV h1 x with
    | some ws => (eXs Γ r σ h1).bind fun xs h2 => .ok (ws ++ xs) h2
    | none => .bad
def eXo (Γ : Ev) : Xo → Sg → Hm → Res (Option Int)
  | .none, _, h => .ok none h
  | .some e, σ, h => (eX Γ e σ h).bind fun x h1 => match x with
    | .int i => .ok (some i) h1
    | _ => .bad
def eIf (Γ : Ev) : Xo → Sg → Hm → Res Bool
  | .none, _, h => .ok true h
  | .some e, σ, h => truR (eX Γ e σ h)
/-- what is walked -/
def eIt (Γ : Ev) : It' → Sg → Hm → Res Src
  | .of f es, σ, h => (eXs Γ es σ h).bind fun ws h1 => (match iterV f ws h1 with
      | some s => .ok s h1
      | none => .bad)
  | .seq e, σ, h => (eX Γ e σ h).bind fun x h1 => match srcV h1 x with
      | some s => .ok s h1
      | none => .bad
end
mutual
def eS (Γ : Ev) : Sm → Sg → Hm → Res Fl
  | .ret e, σ, h => (eX Γ e σ h).bind fun x h1 => .ok (.rt x) h1
  | .retN, _, h => .ok (.rt .non) h
  | .set t e, σ, h => (eX Γ e σ h).bind fun x h1 => match setT t x σ with
    | some σ1 => .ok (.nx σ1) h1
    | none => .bad
  | .setIx o i e, σ, h => (eX Γ e σ h).bind fun x h1 => (eX Γ o σ h1).bind fun a h2 => (eX Γ i σ h2).bind fun k h3 => match a, k with
    | .ref n, .int j => (match h3[n]? with
      | some (.lst ws) => (match L2.ixN ws.length j with
        | some q => .ok (.nx σ) (h3.set n (.lst (ws.set q x)))
        | none => .bad)
      | _ => .bad)
    | _, _ => .bad
  | .dput o es, σ, h => (eX Γ o σ h).bind fun a h1 => (eXs Γ es σ h1).bind fun ws h2 => match a, intsV ws with
    | .ref n, some k => (match h2[n]? with
      | some (.kd ks) => if ks.length < sizeLine ∧ ws.length ≤ sizeLine then .ok (.nx σ) (h2.set n (.kd (putKd ks k))) else .bad
      | _ => .bad)
    | _, _ => .bad
  | .expr e, σ, h => (eX Γ e σ h).bind fun _ h1 => .ok (.nx σ) h1
  | .ife c a b, σ, h => (truR (eX Γ c σ h)).bind fun t h1 => if t = true then eSs Γ a σ h1 else eSs Γ b σ h1
  | .whl c b, σ, h => whileR (fun σ1 h1 => truR (eX Γ c σ1 h1)) (fun σ1 h1 => eSs Γ b σ1 h1) σ h
  | .for t it b, σ, h => (eIt Γ it σ h).bind fun s h1 => forL s.held t (fun σ1 h2 => eSs Γ b σ1 h2) s.items σ h1
  | .pass, σ, h => .ok (.nx σ) h
  | .cont, σ, h => .ok (.ct σ) h
  | .brk, σ, h => .ok (.bk σ) h
  | .never, _, _ => .bad
def eSs (Γ : Ev) : Ss → Sg → Hm → Res Fl
  | .nil, σ, h => .ok (.nx σ) h
  | .cons s r, σ, h => (eS Γ s σ h).bind fun f h1 => match f with
    | .nx σ1 => eSs Γ r σ1 h1
    | f => .ok f h1
end
/-- what a body hands back -/
def handed (r : Res Fl) : Res Va := r.bind fun f h => match f with
  | .rt w => .ok w h
  | .nx _ => .ok .non h
  | _ => .bad
/-- a def: its slots, its parameters' number, its body -/
structure Df where
  slots : Nat
  pars : Nat
  body : Ss
def callN (defs : Str → Option Df) (gv : Str → Option Va) : Nat → Str → List Va → Hm → Res Va
  | 0, _, _, _ => .bad
  | n + 1, f, ws, h => match defs f with
    | some d => if ws.length = d.pars then handed (eSs ⟨callN defs gv n, gv⟩ d.body (ws.map some ++ List.replicate (d.slots - d.pars) none) h) else .bad
    | none => .bad
end
end Vy
set_option maxHeartbeats 200000
/-! the relation to the hand layer's values and heap; expressions -/
namespace Vy
open PySem PySem.Spec PyProof.Rows L2
section
variable (K : PySem.W.Frag) (mg : Str → Option Value)
mutual
inductive RW (ρ : List Addr) (H : Hp) : Va → V → Prop
  | non : RW ρ H .non .non
  | bl (b : Bool) : RW ρ H (.bl b) (.bl b)
  | int (i : Int) : RW ρ H (.int i) (.int i)
  | str (x : Str) : RW ρ H (.str x) (.str x)
  | ty (n : String) : RW ρ H (.ty n) (.ty n)
  | glb {x : Str} {a : Addr} : mg x = some (.ref a) → RW ρ H (.glb x) (.ref a)
  | ref {n : Nat} {a : Addr} : ρ[n]? = some a → RW ρ H (.ref n) (.ref a)
  | tup {ws : List Va} {a : Addr} {vs : List V} : SqT K H a vs → RWs ρ H ws vs → RW ρ H (.tup ws) (.ref a)
inductive RWs (ρ : List Addr) (H : Hp) : List Va → List V → Prop
  | nil : RWs ρ H [] []
  | cons {w : Va} {v : V} {ws : List Va} {vs : List V} : RW ρ H w v → RWs ρ H ws vs → RWs ρ H (w :: ws) (v :: vs)
end
/-- a list that no one writes: frozen, or one of the module's own -/
def FzL (K : PySem.W.Frag) (H : Hp) (a : Addr) (vs : List V) : Prop := (∃ o, H a = some (.frz o (.lst vs))) ∨
  ∃ (o : Obj) (its : Array Value) (n : Nat), K.lookup a = some o ∧ o.cls = .type "list" ∧ o.dict = none ∧ o.data = .seq its n ∧ its.size ≤ sizeLine ∧ Vals vs its.toList
theorem FzL.sq {K : PySem.W.Frag} {H : Hp} {a : Addr} {vs : List V} (f : FzL K H a vs) : SqL K H a vs := f.elim (fun e => .inl (.inr e)) .inr
def kdE (ks : List (List Int)) : List (List Key × V) := ks.map fun k => (k.map Sum.inl, V.bl true)
def RC (ρ : List Addr) (H : Hp) : Ce → Addr → Prop
  | .lst ws, a => ∃ vs, H a = some (.lst vs) ∧ RWs K mg ρ H ws vs
  | .frz ws, a => ∃ vs, FzL K H a vs ∧ RWs K mg ρ H ws vs
  | .kd ks, a => H a = some (.dT (kdE ks))
/-- a list that may be written -/
def Ce.own : Ce → Bool
  | .frz _ => false
  | _ => true
def isLs (h : Hm) (i : Nat) : Prop := ∃ c : Ce, h[i]? = some c ∧ c.own = true
structure RH (ρ : List Addr) (H : Hp) (h : Hm) : Prop where
  len : h.length = ρ.length
  nod : ∀ (i j : Nat) (a : Addr), ρ[i]? = some a → ρ[j]? = some a → isLs h i → isLs h j → i = j
  at_ : ∀ (i : Nat) (c : Ce) (a : Addr), h[i]? = some c → ρ[i]? = some a → RC K mg ρ H c a
def RS (ρ : List Addr) (H : Hp) (σw : Sg) (σ : L2.St) : Prop := σw.length = σ.length ∧ ∀ (i : Nat) (w : Va), σw[i]? = some (some w) → ∃ v, σ[i]? = some (some v) ∧ RW K mg ρ H w v
/-- objects without a place that no one writes but who made them -/
def stays : HO → Bool
  | .ext _ => true
  | .dK _ => true
  | _ => false
/-- what is later: the places stay, the tuples stay -/
structure Fut (ρ : List Addr) (H : Hp) (ρ' : List Addr) (H' : Hp) : Prop where
  pre : ∃ t, ρ' = ρ ++ t
  tup : ∀ (a : Addr) (vs : List V), SqT K H a vs → SqT K H' a vs
  ext : ∀ (a : Addr) (o : HO), stays o = true → H a = some o → H' a = some o
end
section
variable {K : PySem.W.Frag} {mg : Str → Option Value} {ρ ρ' ρ'' : List Addr} {H H' H'' : Hp} {h h' : Hm}
theorem Fut.refl : Fut K ρ H ρ H := ⟨⟨[], by simp⟩, fun _ _ q => q, fun _ _ _ q => q⟩
theorem Fut.trans (f : Fut K ρ H ρ' H') (g : Fut K ρ' H' ρ'' H'') : Fut K ρ H ρ'' H'' := by
  obtain ⟨t, e⟩ := f.pre
  obtain ⟨u, e'⟩ := g.pre
  exact ⟨⟨t ++ u, by rw [e', e, List.append_assoc]⟩, fun a vs q => g.tup a vs (f.tup a vs q), fun a o k q => g.ext a o k (f.ext a o k q)⟩
theorem Fut.at_ (f : Fut K ρ H ρ' H') {n : Nat} {a : Addr} (e : ρ[n]? = some a) : ρ'[n]? = some a := by
  obtain ⟨t, e'⟩ := f.pre
  subst e'
  have hl := (List.getElem?_eq_some_iff.mp e).1
  rw [List.getElem?_append_left hl]
  exact e
mutual
theorem RW.fut (f : Fut K ρ H ρ' H') : ∀ {w : Va} {v : V}, RW K mg ρ H w v → RW K mg ρ' H' w v
  | _, _, .non => .non
  | _, _, .bl b => .bl b
  | _, _, .int b => .int b
  | _, _, .str b => .str b
  | _, _, .ty b => .ty b
  | _, _, .glb e => .glb e
  | _, _, .ref e => .ref (f.at_ e)
  | _, _, .tup s r => .tup (f.tup _ _ s) (RWs.fut f r)
theorem RWs.fut (f : Fut K ρ H ρ' H') : ∀ {ws : List Va} {vs : List V}, RWs K mg ρ H ws vs → RWs K mg ρ' H' ws vs
  | _, _, .nil => .nil
  | _, _, .cons r s => .cons (RW.fut f r) (RWs.fut f s)
end
theorem RWs.len : ∀ {ws : List Va} {vs : List V}, RWs K mg ρ H ws vs → ws.length = vs.length
  | _, _, .nil => rfl
  | _, _, .cons _ s => congrArg (· + 1) (RWs.len s)
theorem RWs.get : ∀ {ws : List Va} {vs : List V} {i : Nat} {w : Va}, RWs K mg ρ H ws vs → ws[i]? = some w → ∃ v, vs[i]? = some v ∧ RW K mg ρ H w v
  | _, _, _, _, .nil, e => by simp at e
  | _, _, 0, _, .cons r _, e => ⟨_, rfl, by simpa using (by simpa using e : _ = _) ▸ r⟩
  | _, _, i + 1, _, .cons _ s, e => by
    obtain ⟨v, e1, r⟩ := RWs.get (i := i) s (by simpa using e)
    exact ⟨v, by simpa using e1, r⟩
theorem RWs.get' : ∀ {ws : List Va} {vs : List V} {i : Nat} {v : V}, RWs K mg ρ H ws vs → vs[i]? = some v → ∃ w, ws[i]? = some w ∧ RW K mg ρ H w v := fun {ws vs i v} r e => by
  have hl := (List.getElem?_eq_some_iff.mp e).1
  have hl' : i < ws.length := by rw [r.len]; exact hl
  obtain ⟨v', e', q⟩ := r.get (List.getElem?_eq_getElem hl')
  rw [e] at e'
  cases e'
  exact ⟨_, List.getElem?_eq_getElem hl', q⟩
theorem RWs.app : ∀ {ws us : List Va} {vs xs : List V}, RWs K mg ρ H ws vs → RWs K mg ρ H us xs → RWs K mg ρ H (ws ++ us) (vs ++ xs)
  | _, _, _, _, .nil, s => s
  | _, _, _, _, .cons r t, s => .cons r (RWs.app t s)
theorem RWs.take : ∀ {ws : List Va} {vs : List V} (n : Nat), RWs K mg ρ H ws vs → RWs K mg ρ H (ws.take n) (vs.take n)
  | _, _, 0, _ => .nil
  | _, _, _ + 1, .nil => .nil
  | _, _, n + 1, .cons r t => .cons r (RWs.take n t)
theorem RWs.drop : ∀ {ws : List Va} {vs : List V} (n : Nat), RWs K mg ρ H ws vs → RWs K mg ρ H (ws.drop n) (vs.drop n)
  | _, _, 0, r => r
  | _, _, _ + 1, .nil => .nil
  | _, _, n + 1, .cons r t => RWs.drop n t
theorem RWs.set {w : Va} {v : V} (q : RW K mg ρ H w v) : ∀ {ws : List Va} {vs : List V} (n : Nat), RWs K mg ρ H ws vs → RWs K mg ρ H (ws.set n w) (vs.set n v)
  | _, _, _, .nil => .nil
  | _, _, 0, .cons _ t => .cons q t
  | _, _, n + 1, .cons r t => .cons r (RWs.set q n t)
theorem RWs.snoc {ws : List Va} {vs : List V} {w : Va} {v : V} (r : RWs K mg ρ H ws vs) (q : RW K mg ρ H w v) : RWs K mg ρ H (ws ++ [w]) (vs ++ [v]) := r.app (.cons q .nil)
theorem RWs.reverse : ∀ {ws : List Va} {vs : List V}, RWs K mg ρ H ws vs → RWs K mg ρ H ws.reverse vs.reverse
  | _, _, .nil => .nil
  | _, _, .cons r t => by
    rw [List.reverse_cons, List.reverse_cons]
    exact (RWs.reverse t).snoc r
theorem RWs.rep {ws : List Va} {vs : List V} (r : RWs K mg ρ H ws vs) : ∀ n : Nat, RWs K mg ρ H (List.replicate n ws).flatten (List.replicate n vs).flatten
  | 0 => .nil
  | n + 1 => by
    rw [List.replicate_succ, List.replicate_succ, List.flatten_cons, List.flatten_cons]
    exact r.app (RWs.rep r n)
theorem RWs.eraseIdx : ∀ {ws : List Va} {vs : List V} (n : Nat), RWs K mg ρ H ws vs → RWs K mg ρ H (ws.eraseIdx n) (vs.eraseIdx n)
  | _, _, _, .nil => .nil
  | _, _, 0, .cons _ t => t
  | _, _, n + 1, .cons r t => .cons r (RWs.eraseIdx n t)
theorem RS.fut (f : Fut K ρ H ρ' H') {σw : Sg} {σ : L2.St} (r : RS K mg ρ H σw σ) : RS K mg ρ' H' σw σ :=
  ⟨r.1, fun i w e => let ⟨v, e', q⟩ := r.2 i w e; ⟨v, e', q.fut f⟩⟩
theorem RC.fut_imm (f : Fut K ρ H ρ' H') {a : Addr} (k : ∀ o, H a = some o → H' a = some o) {c : Ce} (r : RC K mg ρ H c a) : RC K mg ρ' H' c a := by
  cases c with
  | lst ws => obtain ⟨vs, e, q⟩ := r; exact ⟨vs, k _ e, q.fut f⟩
  | frz ws =>
    obtain ⟨vs, e, q⟩ := r
    refine ⟨vs, ?_, q.fut f⟩
    rcases e with ⟨o, e⟩ | e
    · exact .inl ⟨o, k _ e⟩
    · exact .inr e
  | kd ks => exact k _ r
theorem RH.there (r : RH K mg ρ H h) {i : Nat} {a : Addr} (e : ρ[i]? = some a) (l : isLs h i) : ∃ o, H a = some o := by
  obtain ⟨c, hw, ho⟩ := l
  have rc := r.at_ i _ a hw e
  cases c with
  | lst ws =>
    obtain ⟨vs, g, _⟩ := rc
    exact ⟨_, g⟩
  | kd ks => exact ⟨_, rc⟩
  | frz ws => cases ho
theorem isLs_app {c : Ce} {i : Nat} (hi : i < h.length) (l : isLs (h ++ [c]) i) : isLs h i := by
  obtain ⟨ws, e, o⟩ := l
  rw [List.getElem?_append_left hi] at e
  exact ⟨ws, e, o⟩
theorem SqT.upd_new {p a : Addr} {o : HO} {vs : List V} (hp : H p = none) (s : SqT K H a vs) : SqT K (upd H p o) a vs := by
  rcases s with (s | ⟨u, s⟩) | s
  · exact .inl (.inl ((upd_ne (ne_of_none s hp)).trans s))
  · exact .inl (.inr ⟨u, (upd_ne (ne_of_none s hp)).trans s⟩)
  · exact .inr s
/-- a new object that has a place of its own -/
theorem RH.new (r : RH K mg ρ H h) {p : Addr} {o : HO} (hp : H p = none) {c : Ce} (q : ∀ H', H' p = some o → Fut K ρ H (ρ ++ [p]) H' → RC K mg (ρ ++ [p]) H' c p) :
    Fut K ρ H (ρ ++ [p]) (upd H p o) ∧ RH K mg (ρ ++ [p]) (upd H p o) (h ++ [c]) ∧ (ρ ++ [p])[h.length]? = some p := by
  have f : Fut K ρ H (ρ ++ [p]) (upd H p o) := ⟨⟨[p], rfl⟩, fun a vs s => SqT.upd_new hp s, fun a o k e => (upd_ne (ne_of_none e hp)).trans e⟩
  refine ⟨f, ⟨by simp [r.len], ?_, fun i c' a e1 e2 => ?_⟩, ?_⟩
  · have old : ∀ (i j : Nat) (a : Addr), i < h.length → ¬ j < h.length → (ρ ++ [p])[i]? = some a → (ρ ++ [p])[j]? = some a → isLs (h ++ [c]) i → False := fun i j a hi hj e1 e2 l => by
      rw [List.getElem?_append_left (by rw [← r.len]; exact hi)] at e1
      rw [List.getElem?_append_right (by rw [← r.len]; omega)] at e2
      have e3 : a = p := by
        have := List.mem_of_getElem? e2
        simpa using this
      obtain ⟨o', e'⟩ := r.there e1 (isLs_app hi l)
      rw [e3, hp] at e'
      cases e'
    intro i j a e1 e2 l1 l2
    by_cases hi : i < h.length
    · by_cases hj : j < h.length
      · rw [List.getElem?_append_left (by rw [← r.len]; exact hi)] at e1
        rw [List.getElem?_append_left (by rw [← r.len]; exact hj)] at e2
        exact r.nod i j a e1 e2 (isLs_app hi l1) (isLs_app hj l2)
      · exact (old i j a hi hj e1 e2 l1).elim
    · by_cases hj : j < h.length
      · exact (old j i a hj hi e2 e1 l2).elim
      · have a1 := (List.getElem?_eq_some_iff.mp e1).1
        have a2 := (List.getElem?_eq_some_iff.mp e2).1
        rw [List.length_append, ← r.len] at a1 a2
        simp at a1 a2
        omega
  · by_cases hi : i < h.length
    · rw [List.getElem?_append_left hi] at e1
      rw [List.getElem?_append_left (by rw [← r.len]; exact hi)] at e2
      refine (r.at_ i c' a e1 e2).fut_imm f fun o' e => ?_
      rw [upd_ne (ne_of_none e hp)]
      exact e
    · have hi' : i = h.length := by
        have := (List.getElem?_eq_some_iff.mp e1).1
        simp at this
        omega
      subst hi'
      rw [List.getElem?_append_right (Nat.le_refl _)] at e1
      rw [r.len, List.getElem?_append_right (Nat.le_refl _)] at e2
      simp at e1 e2
      subst e1 e2
      exact q _ upd_same f
  · rw [r.len, List.getElem?_append_right (Nat.le_refl _)]
    simp
/-- a new object without a place -/
theorem RH.aside (r : RH K mg ρ H h) {p : Addr} {o : HO} (hp : H p = none) : Fut K ρ H ρ (upd H p o) ∧ RH K mg ρ (upd H p o) h := by
  have f : Fut K ρ H ρ (upd H p o) := ⟨⟨[], by simp⟩, fun a vs s => SqT.upd_new hp s, fun a o k e => (upd_ne (ne_of_none e hp)).trans e⟩
  refine ⟨f, r.len, r.nod, fun i c a e1 e2 => (r.at_ i c a e1 e2).fut_imm f fun o' e => ?_⟩
  rw [upd_ne (ne_of_none e hp)]
  exact e
theorem SqT.upd_lst {p a : Addr} {xs ys : List V} {vs : List V} (hp : H p = some (.lst xs)) (s : SqT K H a vs) : SqT K (upd H p (.lst ys)) a vs := by
  have ne : ∀ o, H a = some o → (∀ zs, o ≠ .lst zs) → upd H p (.lst ys) a = some o := fun o e n => by
    rw [upd_ne]
    · exact e
    · intro z
      rw [z, hp] at e
      exact n xs (Option.some.inj e).symm
  rcases s with (s | ⟨u, s⟩) | s
  · exact .inl (.inl (ne _ s fun zs z => by cases z))
  · exact .inl (.inr ⟨u, ne _ s fun zs z => by cases z⟩)
  · exact .inr s
/-- a list is written -/
theorem RH.write (r : RH K mg ρ H h) {n : Nat} {p : Addr} {xs ys : List V} {us us0 : List Va} (hc : h[n]? = some (.lst us0)) (hn : ρ[n]? = some p) (hp : H p = some (.lst xs)) (q : RWs K mg ρ H us ys) :
    Fut K ρ H ρ (upd H p (.lst ys)) ∧ RH K mg ρ (upd H p (.lst ys)) (h.set n (.lst us)) := by
  have f : Fut K ρ H ρ (upd H p (.lst ys)) := ⟨⟨[], by simp⟩, fun a vs s => SqT.upd_lst hp s, fun a o k e => (upd_ne (fun z => by rw [z, hp] at e; cases e; cases k)).trans e⟩
  have ls : ∀ i, isLs (h.set n (.lst us)) i → isLs h i := fun i l => by
    obtain ⟨ws, e, o⟩ := l
    by_cases hi : n = i
    · subst hi
      exact ⟨_, hc, rfl⟩
    · rw [List.getElem?_set_ne hi] at e
      exact ⟨ws, e, o⟩
  refine ⟨f, by simp [r.len], fun i j a e1 e2 l1 l2 => r.nod i j a e1 e2 (ls i l1) (ls j l2), fun i c a e1 e2 => ?_⟩
  by_cases hi : i = n
  · subst hi
    rw [hn] at e2
    cases e2
    have hl : i < h.length := by
      have := (List.getElem?_eq_some_iff.mp e1).1
      simpa using this
    rw [List.getElem?_set_self hl] at e1
    cases e1
    exact ⟨ys, upd_same, q.fut f⟩
  · rw [List.getElem?_set_ne (Ne.symm hi)] at e1
    have rc := r.at_ i c a e1 e2
    cases c with
    | lst ws =>
      have ha : a ≠ p := fun z => by
        subst z
        exact hi (r.nod i n a e2 hn ⟨_, e1, rfl⟩ ⟨_, hc, rfl⟩)
      exact rc.fut_imm f fun o e => by rw [upd_ne ha]; exact e
    | frz ws =>
      obtain ⟨vs, e, q⟩ := rc
      refine ⟨vs, ?_, q.fut f⟩
      rcases e with ⟨o, e⟩ | e
      · have ha : a ≠ p := fun z => by
          rw [z, hp] at e
          cases e
        exact .inl ⟨o, by rw [upd_ne ha]; exact e⟩
      · exact .inr e
    | kd ks =>
      have ha : a ≠ p := fun z => by
        have rc' : H a = some (.dT (kdE ks)) := rc
        rw [z, hp] at rc'
        cases rc'
      exact rc.fut_imm f fun o e => by rw [upd_ne ha]; exact e
theorem SqT.upd_dT {p a : Addr} {xs ys : List (List Key × V)} {vs : List V} (hp : H p = some (.dT xs)) (s : SqT K H a vs) : SqT K (upd H p (.dT ys)) a vs := by
  have ne : ∀ o, H a = some o → (∀ zs, o ≠ .dT zs) → upd H p (.dT ys) a = some o := fun o e n => by
    rw [upd_ne]
    · exact e
    · intro z
      rw [z, hp] at e
      exact n xs (Option.some.inj e).symm
  rcases s with (s | ⟨u, s⟩) | s
  · exact .inl (.inl (ne _ s fun zs z => by cases z))
  · exact .inl (.inr ⟨u, ne _ s fun zs z => by cases z⟩)
  · exact .inr s
/-- a dict of keys is written -/
theorem RH.writeD (r : RH K mg ρ H h) {n : Nat} {p : Addr} {ks ks' : List (List Int)} (hc : h[n]? = some (.kd ks)) (hn : ρ[n]? = some p) :
    Fut K ρ H ρ (upd H p (.dT (kdE ks'))) ∧ RH K mg ρ (upd H p (.dT (kdE ks'))) (h.set n (.kd ks')) := by
  have hp : H p = some (.dT (kdE ks)) := r.at_ n _ p hc hn
  have f : Fut K ρ H ρ (upd H p (.dT (kdE ks'))) := ⟨⟨[], by simp⟩, fun a vs s => SqT.upd_dT hp s, fun a o k e => (upd_ne (fun z => by rw [z, hp] at e; cases e; cases k)).trans e⟩
  have ls : ∀ i, isLs (h.set n (.kd ks')) i → isLs h i := fun i l => by
    obtain ⟨ws, e, o⟩ := l
    by_cases hi : n = i
    · subst hi
      exact ⟨_, hc, rfl⟩
    · rw [List.getElem?_set_ne hi] at e
      exact ⟨ws, e, o⟩
  refine ⟨f, by simp [r.len], fun i j a e1 e2 l1 l2 => r.nod i j a e1 e2 (ls i l1) (ls j l2), fun i c a e1 e2 => ?_⟩
  by_cases hi : i = n
  · subst hi
    rw [hn] at e2
    cases e2
    have hl : i < h.length := by
      have := (List.getElem?_eq_some_iff.mp e1).1
      simpa using this
    rw [List.getElem?_set_self hl] at e1
    cases e1
    exact upd_same
  · rw [List.getElem?_set_ne (Ne.symm hi)] at e1
    have rc := r.at_ i c a e1 e2
    cases c with
    | lst ws =>
      have ha : a ≠ p := fun z => by
        obtain ⟨vs, e, _⟩ := rc
        rw [z, hp] at e
        cases e
      exact rc.fut_imm f fun o e => by rw [upd_ne ha]; exact e
    | kd us =>
      have ha : a ≠ p := fun z => by
        subst z
        exact hi (r.nod i n a e2 hn ⟨_, e1, rfl⟩ ⟨_, hc, rfl⟩)
      exact rc.fut_imm f fun o e => by rw [upd_ne ha]; exact e
    | frz ws =>
      obtain ⟨vs, e, q⟩ := rc
      refine ⟨vs, ?_, q.fut f⟩
      rcases e with ⟨o, e⟩ | e
      · have ha : a ≠ p := fun z => by
          rw [z, hp] at e
          cases e
        exact .inl ⟨o, by rw [upd_ne ha]; exact e⟩
      · exact .inr e
end
/-! ### readings -/
section
variable (K : PySem.W.Frag) (mg : Str → Option Value)
/-- what follows a value -/
def QV (ρ : List Addr) (H : Hp) (h' : Hm) (w : Va) (Q : VK) : Prop := ∀ ρ' H' v, Fut K ρ H ρ' H' → RH K mg ρ' H' h' → RW K mg ρ' H' w v → Q v H'
def tX (m : Sg → Hm → Res Va) : TE := fun σ H Q => ∃ ρ σw h w h', RS K mg ρ H σw σ ∧ RH K mg ρ H h ∧ m σw h = .ok w h' ∧ QV K mg ρ H h' w Q
def tXs (m : Sg → Hm → Res (List Va)) : TA := fun σ H Q => ∃ ρ σw h ws h', RS K mg ρ H σw σ ∧ RH K mg ρ H h ∧ m σw h = .ok ws h' ∧ ∀ ρ' H' vs, Fut K ρ H ρ' H' → RH K mg ρ' H' h' → RWs K mg ρ' H' ws vs → Q vs H'
def tB' (m : Sg → Hm → Res Bool) : TT := fun σ H Q => ∃ ρ σw h b h', RS K mg ρ H σw σ ∧ RH K mg ρ H h ∧ m σw h = .ok b h' ∧ ∀ ρ' H', Fut K ρ H ρ' H' → RH K mg ρ' H' h' → Q b H'
def tOo (m : Sg → Hm → Res (Option Int)) : TO := fun σ H Q => ∃ ρ σw h o h', RS K mg ρ H σw σ ∧ RH K mg ρ H h ∧ m σw h = .ok o h' ∧ ∀ ρ' H', Fut K ρ H ρ' H' → RH K mg ρ' H' h' → Q o H'
/-- an operation on values -/
def rV2 (f : Va → Va → Hm → Res Va) : R2 := fun x y H Q => ∃ ρ h a b w h', RH K mg ρ H h ∧ RW K mg ρ H a x ∧ RW K mg ρ H b y ∧ f a b h = .ok w h' ∧ QV K mg ρ H h' w Q
def rV1 (f : Va → Hm → Res Va) : V → Hp → VK → Prop := fun x H Q => ∃ ρ h a w h', RH K mg ρ H h ∧ RW K mg ρ H a x ∧ f a h = .ok w h' ∧ QV K mg ρ H h' w Q
def rVs (f : List Va → Hm → Res Va) : List V → Hp → VK → Prop := fun xs H Q => ∃ ρ h ws w h', RH K mg ρ H h ∧ RWs K mg ρ H ws xs ∧ f ws h = .ok w h' ∧ QV K mg ρ H h' w Q
def rVm (f : Va → List Va → Hm → Res Va) : V → List V → Hp → VK → Prop := fun x xs H Q => ∃ ρ h a ws w h', RH K mg ρ H h ∧ RW K mg ρ H a x ∧ RWs K mg ρ H ws xs ∧ f a ws h = .ok w h' ∧ QV K mg ρ H h' w Q
end
section
variable {K : PySem.W.Frag} {mg : Str → Option Value} {X : Cx} {e : Expr} {t t' : TE}
theorem imp_e (h : PE X e t) (f : ∀ σ H Q, t' σ H Q → t σ H Q) : PE X e t' := ⟨fun pins s σ H Q I q => h.run pins s σ H Q I (f σ H Q q)⟩
theorem imp_t {t t' : TT} (h : PT X e t) (f : ∀ σ H Q, t' σ H Q → t σ H Q) : PT X e t' := ⟨fun pins s σ H Q I q => h.run pins s σ H Q I (f σ H Q q)⟩
theorem imp_w {t t' : TT} (h : PW X e t) (f : ∀ σ H Q, t' σ H Q → t σ H Q) : PW X e t' := ⟨fun whole pins s σ H Q I q => h.run whole pins s σ H Q I (f σ H Q q)⟩
theorem imp_a {es : List Expr} {t t' : TA} (h : PA X es t) (f : ∀ σ H Q, t' σ H Q → t σ H Q) : PA X es t' := ⟨fun pos pins s σ H Q I q => h.run pos pins s σ H Q I (f σ H Q q)⟩
theorem imp_o {o : Option Expr} {t t' : TO} (h : PO X o t) (f : ∀ σ H Q, t' σ H Q → t σ H Q) : PO X o t' := ⟨fun pins s σ H Q I q => h.run pins s σ H Q I (f σ H Q q)⟩
theorem imp_s {st : Stmt} {t t' : TS} (h : PS X st t) (f : ∀ D σ H, t' D σ H → t D σ H) : PS X st t' := ⟨fun pins s σ H D I q => h.run pins s σ H D I (f D σ H q)⟩
theorem imp_ss {st : List Stmt} {t t' : TS} (h : PSs X st t) (f : ∀ D σ H, t' D σ H → t D σ H) : PSs X st t' := ⟨fun pins s σ H D I q => h.run pins s σ H D I (f D σ H q)⟩
/-- first a, then what it leaves -/
theorem tX_then {ma : Sg → Hm → Res Va} {f : Va → Sg → Hm → Res Va} {σ : L2.St} {H : Hp} {Q : VK} (h : tX K mg (fun σw h => (ma σw h).bind fun x h1 => f x σw h1) σ H Q) :
    tX K mg ma σ H fun x H1 => ∃ ρ σw h1 a w h', RS K mg ρ H1 σw σ ∧ RH K mg ρ H1 h1 ∧ RW K mg ρ H1 a x ∧ f a σw h1 = .ok w h' ∧ QV K mg ρ H1 h' w Q := by
  obtain ⟨ρ, σw, h, w, h', rs, rh, e, q⟩ := h
  obtain ⟨a, h1, e1, e2⟩ := bind_eq_ok e
  refine ⟨ρ, σw, h, a, h1, rs, rh, e1, fun ρ1 H1 v f1 rh1 rv => ⟨ρ1, σw, h1, a, w, h', rs.fut f1, rh1, rv, e2, fun ρ2 H2 v2 f2 rh2 rv2 => q ρ2 H2 v2 (f1.trans f2) rh2 rv2⟩⟩
end
end Vy
set_option maxHeartbeats 1000000
/-! the parts of an expression: what each rule of the hand layer gives -/
namespace Vy
open PySem PySem.Spec PyProof.Rows L2
section
variable {K : PySem.W.Frag} {mg : Str → Option Value} {ρ ρ' : List Addr} {H H' : Hp} {h h' : Hm}
/-- a later value of places that were there, told from the elder state -/
theorem prefix_at {t : List Addr} {n : Nat} {a b : Addr} (e : ρ[n]? = some a) (e' : (ρ ++ t)[n]? = some b) : a = b := by
  have hl := (List.getElem?_eq_some_iff.mp e).1
  rw [List.getElem?_append_left hl, e] at e'
  exact Option.some.inj e'
mutual
theorem RW.back {H0 : Hp} {t : List Addr} : ∀ {w : Va} {v v0 : V}, RW K mg ρ H0 w v0 → RW K mg (ρ ++ t) H' w v → RW K mg ρ H' w v
  | _, _, _, .non, .non => .non
  | _, _, _, .bl _, .bl b => .bl b
  | _, _, _, .int _, .int b => .int b
  | _, _, _, .str _, .str b => .str b
  | _, _, _, .ty _, .ty b => .ty b
  | _, _, _, .glb _, .glb e => .glb e
  | _, _, _, .ref e0, .ref e => .ref (by rw [← prefix_at e0 e]; exact e0)
  | _, _, _, .tup _ r0, .tup s r => .tup s (RWs.back r0 r)
theorem RWs.back {H0 : Hp} {t : List Addr} : ∀ {ws : List Va} {vs vs0 : List V}, RWs K mg ρ H0 ws vs0 → RWs K mg (ρ ++ t) H' ws vs → RWs K mg ρ H' ws vs
  | _, _, _, .nil, .nil => .nil
  | _, _, _, .cons r0 s0, .cons r s => .cons (RW.back r0 r) (RWs.back s0 s)
end
mutual
theorem RW.low {t : List Addr} : ∀ {w : Va} {v : V}, w.low ρ.length = true → RW K mg (ρ ++ t) H' w v → RW K mg ρ H' w v
  | _, _, _, .non => .non
  | _, _, _, .bl b => .bl b
  | _, _, _, .int b => .int b
  | _, _, _, .str b => .str b
  | _, _, _, .ty b => .ty b
  | _, _, _, .glb e => .glb e
  | .ref n, _, l, .ref e => .ref (by
    have l' : n < ρ.length := of_decide_eq_true l
    rw [List.getElem?_append_left l'] at e
    exact e)
  | _, _, l, .tup s r => .tup s (RWs.low l r)
theorem RWs.low {t : List Addr} : ∀ {ws : List Va} {vs : List V}, Va.lows ρ.length ws = true → RWs K mg (ρ ++ t) H' ws vs → RWs K mg ρ H' ws vs
  | _, _, _, .nil => .nil
  | w :: ws, _, l, .cons r s => by
    have l' : (w.low ρ.length && Va.lows ρ.length ws) = true := l
    rw [Bool.and_eq_true] at l'
    exact .cons (RW.low l'.1 r) (RWs.low l'.2 s)
end
theorem RC.back {t : List Addr} {H0 : Hp} {c : Ce} {a0 a : Addr} (r0 : RC K mg ρ H0 c a0) (r : RC K mg (ρ ++ t) H' c a) : RC K mg ρ H' c a := by
  cases c with
  | lst ws =>
    obtain ⟨vs0, _, q0⟩ := r0
    obtain ⟨vs, e, q⟩ := r
    exact ⟨vs, e, q0.back q⟩
  | frz ws =>
    obtain ⟨vs0, _, q0⟩ := r0
    obtain ⟨vs, e, q⟩ := r
    exact ⟨vs, e, q0.back q⟩
  | kd ks => exact r
theorem RC.low {t : List Addr} {c : Ce} {a : Addr} (l : c.low ρ.length = true) (r : RC K mg (ρ ++ t) H' c a) : RC K mg ρ H' c a := by
  cases c with
  | lst ws =>
    obtain ⟨vs, e, q⟩ := r
    exact ⟨vs, e, RWs.low l q⟩
  | frz ws =>
    obtain ⟨vs, e, q⟩ := r
    exact ⟨vs, e, RWs.low l q⟩
  | kd ks => exact r
theorem RH.cut {t : List Addr} (r0 : RH K mg ρ H h) (r : RH K mg (ρ ++ t) H' h') (hl : h.length ≤ h'.length) (k : keptB h h') : RH K mg ρ H' (h'.take h.length) := by
  refine ⟨by rw [List.length_take, Nat.min_eq_left hl]; exact r0.len, fun i j a e1 e2 l1 l2 => ?_, fun i c a e1 e2 => ?_⟩
  · have hi : i < ρ.length := (List.getElem?_eq_some_iff.mp e1).1
    have hj : j < ρ.length := (List.getElem?_eq_some_iff.mp e2).1
    have tk : ∀ i, i < ρ.length → isLs (h'.take h.length) i → isLs h' i := fun i hi l => by
      obtain ⟨ws, e, o⟩ := l
      rw [List.getElem?_take_of_lt (by rw [r0.len]; exact hi)] at e
      exact ⟨ws, e, o⟩
    refine r.nod i j a ?_ ?_ (tk i hi l1) (tk j hj l2)
    · rw [List.getElem?_append_left hi]; exact e1
    · rw [List.getElem?_append_left hj]; exact e2
  have hi : i < h.length := by rw [r0.len]; exact (List.getElem?_eq_some_iff.mp e2).1
  rw [List.getElem?_take_of_lt hi] at e1
  have e2' : (ρ ++ t)[i]? = some a := by rw [List.getElem?_append_left (by rw [← r0.len]; exact hi)]; exact e2
  have rc := r.at_ i c a e1 e2'
  rcases k i hi with q | ⟨c', q, l⟩
  · rw [e1] at q
    exact (r0.at_ i c a q.symm e2).back rc
  · rw [e1] at q
    cases q
    rw [r0.len] at l
    exact rc.low l
theorem gc_QV {w w2 : Va} {h2 : Hm} {Q : VK} (r0 : RH K mg ρ H h) (e : gc h w h' = .ok w2 h2) (q : QV K mg ρ H h2 w2 Q) : QV K mg ρ H h' w Q := by
  intro ρ' H' v f rh rv
  obtain ⟨t, et⟩ := f.pre
  subst et
  unfold gc at e
  split at e
  · rename_i c
    obtain ⟨hl, k⟩ := c
    have cut := r0.cut rh hl k
    have f0 : Fut K ρ H ρ H' := ⟨⟨[], by simp⟩, f.tup, f.ext⟩
    have low : w.low h.length = true → RW K mg ρ H' w v := fun l => by
      rw [r0.len] at l
      exact rv.low l
    split at e
    · rename_i n
      split at e
      · rename_i hn
        cases e
        exact q ρ H' v f0 cut (low (decide_eq_true hn))
      · rename_i hn
        split at e
        · rename_i c hc
          split at e
          · rename_i lc
            cases e
            cases rv with
            | ref ea =>
              rename_i a
              have hn' : h.length ≤ n := Nat.le_of_not_lt hn
              have rc := rh.at_ n c a hc ea
              have f1 : Fut K ρ H (ρ ++ [a]) H' := ⟨⟨[a], rfl⟩, f.tup, f.ext⟩
              have f2 : Fut K ρ H' (ρ ++ [a]) H' := ⟨⟨[a], rfl⟩, fun _ _ s => s, fun _ _ _ s => s⟩
              have len2 : (h'.take h.length).length = h.length := by rw [List.length_take, Nat.min_eq_left hl]
              refine q (ρ ++ [a]) H' (.ref a) f1 ⟨by rw [List.length_append, List.length_append, len2, r0.len]; rfl, ?_, fun i c' b e1 e2 => ?_⟩ (.ref (by rw [r0.len, List.getElem?_append_right (Nat.le_refl _)]; simp))
              · -- where each place stood in the callee's heap
                have back : ∀ (i : Nat) (b : Addr), (ρ ++ [a])[i]? = some b → isLs (h'.take h.length ++ [c]) i → ∃ i', (ρ ++ t)[i']? = some b ∧ isLs h' i' ∧ (i < h.length → i' = i) ∧ (¬ i < h.length → i' = n ∧ i = h.length) := fun i b e1 l => by
                  obtain ⟨ws, l, lo⟩ := l
                  by_cases hi : i < h.length
                  · rw [List.getElem?_append_left (by rw [len2]; exact hi), List.getElem?_take_of_lt hi] at l
                    rw [List.getElem?_append_left (by rw [← r0.len]; exact hi)] at e1
                    exact ⟨i, by rw [List.getElem?_append_left (by rw [← r0.len]; exact hi)]; exact e1, ⟨ws, l, lo⟩, fun _ => rfl, fun z => absurd hi z⟩
                  · have hi' : i = h.length := by
                      have := (List.getElem?_eq_some_iff.mp l).1
                      rw [List.length_append, len2] at this
                      simp at this
                      omega
                    subst hi'
                    rw [List.getElem?_append_right (by rw [len2]; exact Nat.le_refl _), len2] at l
                    rw [r0.len, List.getElem?_append_right (Nat.le_refl _)] at e1
                    simp at l e1
                    subst l e1
                    exact ⟨n, ea, ⟨_, hc, lo⟩, fun z => absurd z hi, fun _ => ⟨rfl, rfl⟩⟩
                intro i j b e1 e2 l1 l2
                obtain ⟨i', a1, a2, a3, a4⟩ := back i b e1 l1
                obtain ⟨j', b1, b2, b3, b4⟩ := back j b e2 l2
                have ij := rh.nod i' j' b a1 b1 a2 b2
                by_cases hi : i < h.length
                · by_cases hj : j < h.length
                  · rw [← a3 hi, ← b3 hj, ij]
                  · have := a3 hi
                    have := (b4 hj).1
                    omega
                · by_cases hj : j < h.length
                  · have := b3 hj
                    have := (a4 hi).1
                    omega
                  · rw [(a4 hi).2, (b4 hj).2]
              · by_cases hi : i < h.length
                · rw [List.getElem?_append_left (by rw [len2]; exact hi)] at e1
                  rw [List.getElem?_append_left (by rw [← r0.len]; exact hi)] at e2
                  exact (cut.at_ i c' b e1 e2).fut_imm f2 fun _ z => z
                · have hi' : i = h.length := by
                    have := (List.getElem?_eq_some_iff.mp e1).1
                    rw [List.length_append, len2] at this
                    simp at this
                    omega
                  subst hi'
                  rw [List.getElem?_append_right (by rw [len2]; exact Nat.le_refl _), len2] at e1
                  rw [r0.len, List.getElem?_append_right (Nat.le_refl _)] at e2
                  simp at e1 e2
                  subst e1 e2
                  rw [r0.len] at lc
                  exact (rc.low lc).fut_imm f2 fun _ z => z
          · cases e
            exact q _ H' v f rh rv
        · cases e
          exact q _ H' v f rh rv
    · split at e
      · rename_i l
        cases e
        exact q ρ H' v f0 cut (low l)
      · cases e
        exact q _ H' v f rh rv
  · cases e
    exact q _ H' v f rh rv
end
/-! ### composing -/
section
variable {X : Cx} {K : PySem.W.Frag} {mg : Str → Option Value} {a b c : Expr} {ma mb mc : Sg → Hm → Res Va} {pos : Pos}
/-- two values, then an operation -/
theorem two {f : Va → Va → Hm → Res Va} {σ : L2.St} {H : Hp} {Q : VK} (h : tX K mg (fun σw h => (ma σw h).bind fun x h1 => (mb σw h1).bind fun y h2 => f x y h2) σ H Q) :
    tOp (rV2 K mg f) (tX K mg ma) (tX K mg mb) σ H Q := by
  obtain ⟨ρ, σw, h, w, h', rs, rh, e, q⟩ := h
  obtain ⟨x, h1, e1, e⟩ := bind_eq_ok e
  obtain ⟨y, h2, e2, e⟩ := bind_eq_ok e
  refine ⟨ρ, σw, h, x, h1, rs, rh, e1, fun ρ1 H1 v1 f1 rh1 rv1 => ⟨ρ1, σw, h1, y, h2, rs.fut f1, rh1, e2, fun ρ2 H2 v2 f2 rh2 rv2 => ⟨ρ2, h2, x, y, w, h', rh2, rv1.fut f2, rv2, e, fun ρ3 H3 v3 f3 rh3 rv3 => q ρ3 H3 v3 (f1.trans (f2.trans f3)) rh3 rv3⟩⟩⟩
theorem one {f : Va → Hm → Res Va} {σ : L2.St} {H : Hp} {Q : VK} (h : tX K mg (fun σw h => (ma σw h).bind fun x h1 => f x h1) σ H Q) :
    tUn (rV1 K mg f) (tX K mg ma) σ H Q := by
  obtain ⟨ρ, σw, h, w, h', rs, rh, e, q⟩ := h
  obtain ⟨x, h1, e1, e⟩ := bind_eq_ok e
  refine ⟨ρ, σw, h, x, h1, rs, rh, e1, fun ρ1 H1 v1 f1 rh1 rv1 => ⟨ρ1, h1, x, w, h', rh1, rv1, e, fun ρ3 H3 v3 f3 rh3 rv3 => q ρ3 H3 v3 (f1.trans f3) rh3 rv3⟩⟩
theorem args {f : List Va → Hm → Res Va} {m : Sg → Hm → Res (List Va)} {σ : L2.St} {H : Hp} {Q : VK} (h : tX K mg (fun σw h => (m σw h).bind fun x h1 => f x h1) σ H Q) :
    tXs K mg m σ H fun vs H1 => rVs K mg f vs H1 Q := by
  obtain ⟨ρ, σw, h, w, h', rs, rh, e, q⟩ := h
  obtain ⟨x, h1, e1, e⟩ := bind_eq_ok e
  refine ⟨ρ, σw, h, x, h1, rs, rh, e1, fun ρ1 H1 v1 f1 rh1 rv1 => ⟨ρ1, h1, x, w, h', rh1, rv1, e, fun ρ3 H3 v3 f3 rh3 rv3 => q ρ3 H3 v3 (f1.trans f3) rh3 rv3⟩⟩
/-- the value at hand, nothing changed -/
theorem QV.now {ρ : List Addr} {H : Hp} {h : Hm} {w : Va} {v : V} {Q : VK} (q : QV K mg ρ H h w Q) (r : RH K mg ρ H h) (rv : RW K mg ρ H w v) : Q v H := q ρ H v .refl r rv
/-- a new tuple -/
theorem QV.tup {ρ : List Addr} {H : Hp} {h : Hm} {ws : List Va} {vs : List V} {Q : VK} {p : Addr} (q : QV K mg ρ H h (.tup ws) Q) (r : RH K mg ρ H h) (rv : RWs K mg ρ H ws vs) (hp : H p = none) : Q (.ref p) (upd H p (.tup vs)) :=
  let z := r.aside (o := .tup vs) hp
  q ρ _ _ z.1 z.2 (.tup (SqT.of upd_same) (rv.fut z.1))
/-- a new list -/
theorem QV.lst {ρ : List Addr} {H : Hp} {h : Hm} {ws : List Va} {vs : List V} {Q : VK} {p : Addr} (q : QV K mg ρ H (h ++ [.lst ws]) (.ref h.length) Q) (r : RH K mg ρ H h) (rv : RWs K mg ρ H ws vs) (hp : H p = none) : Q (.ref p) (upd H p (.lst vs)) :=
  let z := r.new (o := .lst vs) (c := .lst ws) hp fun H' e f => ⟨vs, e, rv.fut f⟩
  q _ _ _ z.1 z.2.1 (.ref z.2.2)
/-! ### lists that are read -/
theorem RH.seq {ρ : List Addr} {H : Hp} {h : Hm} {n : Nat} {a : Addr} {ws : List Va} (r : RH K mg ρ H h) (e : seqAt h n = some ws) (ea : ρ[n]? = some a) : ∃ vs, SqL K H a vs ∧ RWs K mg ρ H ws vs := by
  unfold seqAt at e
  split at e
  · rename_i ws' hc
    cases e
    obtain ⟨vs, q1, q2⟩ := r.at_ n _ a hc ea
    exact ⟨vs, SqL.of q1, q2⟩
  · rename_i ws' hc
    cases e
    obtain ⟨vs, q1, q2⟩ := r.at_ n _ a hc ea
    exact ⟨vs, q1.sq, q2⟩
  · cases e
theorem RH.lst {ρ : List Addr} {H : Hp} {h : Hm} {n : Nat} {a : Addr} {ws : List Va} (r : RH K mg ρ H h) (e : h[n]? = some (.lst ws)) (ea : ρ[n]? = some a) : ∃ vs, H a = some (.lst vs) ∧ RWs K mg ρ H ws vs := r.at_ n _ a e ea
/-! ### names, constants -/
theorem s_var {i : Nat} {x : Str} (hN : X.N[i]? = some x) (hv : Vis X.env.scope x) (hd : (x == ("__debug__" : Str)) = false) (hcd : (x == ("__classdict__" : Str)) = false) :
    PE X (.Name x pos) (tX K mg fun σw h => ofO h (getS σw i)) := imp_e (pe_var hN hv hd hcd) fun σ H Q q => by
  obtain ⟨ρ, σw, h, w, h', rs, rh, e, q⟩ := q
  replace e : ofO h (getS σw i) = .ok w h' := e
  unfold getS ofO at e
  cases g : σw[i]? with
  | none => rw [g] at e; cases e
  | some o =>
    rw [g] at e
    cases o with
    | none => cases e
    | some u =>
      have e' : Res.ok u h = .ok w h' := e
      cases e'
      obtain ⟨v, ev, rv⟩ := rs.2 i w g
      exact ⟨v, ev, q.now rh rv⟩
theorem tX_const {w : Va} {v : V} (hr : ∀ ρ H, RW K mg ρ H w v) {σ : L2.St} {H : Hp} {Q : VK} (q : tX K mg (fun _ h => .ok w h) σ H Q) : tC v σ H Q := by
  obtain ⟨ρ, σw, h, w', h', rs, rh, e, q⟩ := q
  have e' : Res.ok w h = .ok w' h' := e
  cases e'
  exact q.now rh (hr ρ H)
theorem s_glob {x : Str} {w : Va} {v : V} {u : Value} (hg : Gl X x) (hm : X.mg x = some u) (r : RelV v u) (hr : ∀ ρ H, RW K mg ρ H w v) (hd : (x == ("__debug__" : Str)) = false) :
    PE X (.Name x pos) (tX K mg fun _ h => .ok w h) := imp_e (pe_glob hg hm r hd) fun σ H Q q => tX_const hr q
/-! ### truth -/
theorem truth_ok {ρ : List Addr} {H : Hp} {h : Hm} {w : Va} {v : V} {k : Bool} (rh : RH K mg ρ H h) (rv : RW K mg ρ H w v) (e : truth h w = some k) : TruV K v H k := by
  cases rv with
  | non => cases e; rfl
  | bl b => cases e; rfl
  | int i => cases e; rfl
  | str x =>
    have e' : (if x.length ≤ sizeLine then some ((x.length : Int) != 0) else none) = some k := e
    split at e'
    · rename_i hx
      cases e'
      exact ⟨hx, rfl⟩
    · cases e'
  | ty n => cases e
  | glb _ => cases e
  | ref ea =>
    have e' : (seqAt h _).map (fun ws : List Va => !ws.isEmpty) = some k := e
    obtain ⟨ws, e1, e2⟩ := Option.map_eq_some_iff.mp e'
    obtain ⟨vs, s, r⟩ := rh.seq e1 ea
    refine .inl ⟨vs, s, ?_⟩
    rw [← e2]
    cases r <;> rfl
  | tup s r =>
    cases e
    refine .inr (.inl ⟨_, s, ?_⟩)
    cases r <;> rfl
end
end Vy
set_option maxHeartbeats 1000000
/-! operators -/
namespace Vy
open PySem PySem.Spec PyProof.Rows L2
section
variable {X : Cx} {ρ ρ' : List Addr} {H H' : Hp} {h h' : Hm}
theorem rw_int {i : Int} {v : V} {K : PySem.W.Frag} {mg : Str → Option Value} (r : RW K mg ρ H (.int i) v) : v = .int i := by cases r; rfl
theorem rw_str {x : Str} {v : V} {K : PySem.W.Frag} {mg : Str → Option Value} (r : RW K mg ρ H (.str x) v) : v = .str x := by cases r; rfl
theorem rw_bl {b : Bool} {v : V} {K : PySem.W.Frag} {mg : Str → Option Value} (r : RW K mg ρ H (.bl b) v) : v = .bl b := by cases r; rfl
theorem rw_non {v : V} {K : PySem.W.Frag} {mg : Str → Option Value} (r : RW K mg ρ H .non v) : v = .non := by cases r; rfl
theorem rw_ty {n : String} {v : V} {K : PySem.W.Frag} {mg : Str → Option Value} (r : RW K mg ρ H (.ty n) v) : v = .ty n := by cases r; rfl
theorem rw_ref {n : Nat} {v : V} {K : PySem.W.Frag} {mg : Str → Option Value} (r : RW K mg ρ H (.ref n) v) : ∃ a, v = .ref a ∧ ρ[n]? = some a := by
  cases r with
  | ref e => exact ⟨_, rfl, e⟩
theorem rw_tup {ws : List Va} {v : V} {K : PySem.W.Frag} {mg : Str → Option Value} (r : RW K mg ρ H (.tup ws) v) : ∃ a vs, v = .ref a ∧ SqT K H a vs ∧ RWs K mg ρ H ws vs := by
  cases r with
  | tup s q => exact ⟨_, _, rfl, s, q⟩
theorem vint (w : Va) : (∃ i, w = .int i) ∨ ∀ i, w ≠ .int i := by
  cases w <;> first | exact .inl ⟨_, rfl⟩ | exact .inr fun _ z => nomatch z
theorem mul_ok {i j : Int} (h : mulOk i j) : IntMulOk i j := by
  have h' : i.natAbs.log2 + j.natAbs.log2 < 134000000 := h
  have hi : Builtin.Int.intBits i ≤ i.natAbs.log2 + 1 := by
    unfold Builtin.Int.intBits
    split <;> omega
  have hj : Builtin.Int.intBits j ≤ j.natAbs.log2 + 1 := by
    unfold Builtin.Int.intBits
    split <;> omega
  have e : bitsLine = 134217728 := rfl
  have t : Builtin.Int.intTooBig (Builtin.Int.intBits i + Builtin.Int.intBits j) = false := by
    unfold Builtin.Int.intTooBig
    exact decide_eq_false (by rw [e]; omega)
  unfold IntMulOk
  rw [t]
  simp
theorem op_addW : OpR X (binaryOp .Add) (rV2 X.K X.mg addV) := by
  intro pins s σ H x y v u Q I rx ry q
  obtain ⟨ρ, h, a, b, w, h', rh, ra, rb, e, q⟩ := q
  unfold addV at e
  split at e
  · cases e
    rw [rw_int ra] at rx
    rw [rw_int rb] at ry
    exact op_add pins s σ H _ _ v u Q I rx ry ⟨_, _, rfl, rfl, q.now rh (.int _)⟩
  · split at e
    · rename_i hl
      cases e
      rw [rw_str ra] at rx
      rw [rw_str rb] at ry
      exact op_add_str pins s σ H _ _ v u Q I rx ry ⟨_, _, rfl, rfl, hl, q.now rh (.str _)⟩
    · cases e
  · split at e
    · rename_i ws us h0 hl
      cases e
      obtain ⟨p, vs, e1, s1, r1⟩ := rw_tup ra
      obtain ⟨p2, us2, e2, s2, r2⟩ := rw_tup rb
      subst e1 e2
      refine op_catA pins s σ H _ _ v u Q I rx ry ⟨p, p2, vs, us2, rfl, rfl, s1, s2, by rw [← r1.len, ← r2.len]; exact hl, fun z => ?_, fun _ z => ?_, fun _ _ c hc => q.tup rh (r1.app r2) hc⟩
      · subst z
        have zw := r1.len
        rw [List.length_nil] at zw
        rw [List.length_eq_zero_iff.mp zw] at q
        exact q.now rh (.tup s2 r2)
      · subst z
        have zw := r2.len
        rw [List.length_nil] at zw
        rw [List.length_eq_zero_iff.mp zw, List.append_nil] at q
        exact q.now rh (.tup s1 r1)
    · cases e
  · split at e
    · rename_i a1 b1 hm hn
      split at e
      · rename_i hl
        cases e
        obtain ⟨p, e1, m1⟩ := rw_ref ra
        obtain ⟨p2, e2, m2⟩ := rw_ref rb
        subst e1 e2
        obtain ⟨vs, g1, r1⟩ := rh.lst hm m1
        obtain ⟨us, g2, r2⟩ := rh.lst hn m2
        refine op_cat pins s σ H _ _ v u Q I rx ry ⟨p, p2, vs, us, rfl, rfl, g1, g2, by rw [← r1.len, ← r2.len]; exact hl, fun c hc => q.lst rh (r1.app r2) hc⟩
      · cases e
    · cases e
  · cases e
theorem op_mulV : OpR X (binaryOp .Mult) (rV2 X.K X.mg mulV) := by
  intro pins s σ H x y v u Q I rx ry q
  obtain ⟨ρ, h, a, b, w, h', rh, ra, rb, e, q⟩ := q
  unfold mulV at e
  split at e
  · split at e
    · rename_i hm
      cases e
      rw [rw_int ra] at rx
      rw [rw_int rb] at ry
      obtain ⟨t, rfl⟩ := rx
      obtain ⟨t', rfl⟩ := ry
      exact mul_int ⟨.int _, H, I.tok _, ⟨_, rfl⟩, q.now rh (.int _)⟩ (mul_ok hm)
    · cases e
  · split at e
    · rename_i ws k hl
      cases e
      obtain ⟨p, vs, e1, s1, r1⟩ := rw_tup ra
      rw [rw_int rb] at ry
      subst e1
      refine op_repT pins s σ H _ _ v u Q I rx ry ⟨p, k, vs, rfl, rfl, s1, fun z => (show False from ?_), hl.2.1, hl.2.2.1, by rw [← r1.len]; exact hl.2.2.2, fun c hc => q.tup rh (r1.rep _) hc⟩
      have zw := r1.len
      rw [z, List.length_nil] at zw
      have e0 := List.length_eq_zero_iff.mp zw
      rw [e0] at hl
      exact Bool.false_ne_true hl.1.symm
    · cases e
  · cases e
theorem div_ok {i j : Int} (h : divOk i j) : Builtin.divisionGoesByPylong i j = false := by
  have h2 : j.natAbs.log2 < 8900 := h.2
  unfold Builtin.divisionGoesByPylong
  have e : (j == 0) = false := beq_eq_false_iff_ne.mpr h.1
  simp only [e]
  have : ¬ (j.natAbs.log2 / 30 + 1 > 300) := by omega
  simp [this]
/-- an operator of ints, by its rule -/
theorem opInt {op : Operator} {C : Int → Int → Prop} {g : Int → Int → Int} {f : Va → Va → Hm → Res Va}
    (hf : ∀ a b h w h', f a b h = .ok w h' → ∃ i j, a = .int i ∧ b = .int j ∧ C i j ∧ w = .int (g i j) ∧ h' = h)
    (rule : ∀ (i j : Int) (t u : Tok) (Q : Value → Shared → Prop) (s : Shared), C i j → Q (.int (g i j) s.toks) { s with toks := s.toks + 1 } → wpAny (model X.prog X.w) X.A (binaryOp op (.int i t) (.int j u)) Q X.xe s) :
    OpR X (binaryOp op) (rV2 X.K X.mg f) := by
  intro pins s σ H x y v u Q I rx ry q
  obtain ⟨ρ, h, a, b, w, h', rh, ra, rb, e, q⟩ := q
  obtain ⟨i, j, rfl, rfl, hc, rfl, rfl⟩ := hf _ _ _ _ _ e
  rw [rw_int ra] at rx
  rw [rw_int rb] at ry
  obtain ⟨t, rfl⟩ := rx
  obtain ⟨t', rfl⟩ := ry
  exact rule i j t t' _ s hc ⟨.int _, H, I.tok _, ⟨_, rfl⟩, q.now rh (.int _)⟩
/-- the operators of the small language -/
def opM : Op → Operator
  | .add => .Add
  | .sub => .Sub
  | .mul => .Mult
  | .fdiv => .FloorDiv
  | .mod => .Mod
  | .pow => .Pow
theorem op_bin (o : Op) : OpR X (binaryOp (opM o)) (rV2 X.K X.mg (binV o)) := by
  cases o with
  | add => exact op_addW
  | mul => exact op_mulV
  | sub =>
    refine opInt (f := subV) (C := fun _ _ => True) (g := fun i j => i - j) (fun a b h w h' e => ?_) fun i j t u Q s _ q => sub_int q
    unfold subV at e
    split at e
    · cases e; exact ⟨_, _, rfl, rfl, trivial, rfl, rfl⟩
    · cases e
  | fdiv =>
    refine opInt (f := fdivV) (C := divOk) (g := fun i j => i.fdiv j) (fun a b h w h' e => ?_) fun i j t u Q s hc q => floordiv_int hc.1 q (.inl (div_ok hc))
    unfold fdivV at e
    split at e
    · split at e
      · rename_i hc
        cases e; exact ⟨_, _, rfl, rfl, hc, rfl, rfl⟩
      · cases e
    · cases e
  | mod =>
    refine opInt (f := modV) (C := fun _ j => j ≠ 0) (g := fun i j => i.fmod j) (fun a b h w h' e => ?_) fun i j t u Q s hc q => mod_int' hc q
    unfold modV at e
    split at e
    · split at e
      · rename_i hc
        cases e; exact ⟨_, _, rfl, rfl, hc, rfl, rfl⟩
      · cases e
    · cases e
  | pow =>
    refine opInt (f := powV) (C := fun i j => 0 ≤ j ∧ (Builtin.Int.intBits i : Int) * j ≤ 2 ^ 27) (g := fun i j => i ^ j.toNat) (fun a b h w h' e => ?_) fun i j t u Q s hc q => pow_int hc.1 hc.2 q
    unfold powV at e
    split at e
    · split at e
      · rename_i hc
        cases e; exact ⟨_, _, rfl, rfl, hc, rfl, rfl⟩
      · cases e
    · cases e
end
end Vy
set_option maxHeartbeats 1000000
/-! comparisons, subscripts, slices -/
namespace Vy
open PySem PySem.Spec PyProof.Rows L2
section
variable {K : PySem.W.Frag} {mg : Str → Option Value} {ρ ρ' : List Addr} {H H' : Hp} {h h' : Hm}
mutual
theorem dp_of {g : Nat → Option PyData} (hg : ∀ n a d, g n = some d → ρ[n]? = some a → Dp K H (.ref a) d) : ∀ {w : Va} {v : V} {d : PyData}, RW K mg ρ H w v → w.dat g = some d → Dp K H v d
  | _, _, _, .non, e => by cases e; exact .non
  | _, _, _, .bl b, e => by cases e; exact .bl b
  | _, _, _, .int b, e => by cases e; exact .int b
  | _, _, _, .str b, e => by cases e; exact .str b
  | _, _, _, .ty b, e => by cases e
  | _, _, _, .glb _, e => by cases e
  | _, _, _, .ref ea, e => hg _ _ _ e ea
  | .tup ws, _, d, .tup s r, e => by
    have e' : (Va.dats g ws).map PyData.tuple = some d := e
    obtain ⟨ds, e1, e2⟩ := Option.map_eq_some_iff.mp e'
    subst e2
    exact .tup s (dps_of hg r e1)
theorem dps_of {g : Nat → Option PyData} (hg : ∀ n a d, g n = some d → ρ[n]? = some a → Dp K H (.ref a) d) : ∀ {ws : List Va} {vs : List V} {ds : List PyData}, RWs K mg ρ H ws vs → Va.dats g ws = some ds → DpAll K H vs ds
  | _, _, _, .nil, e => by cases e; exact .nil
  | w :: ws, _, ds, .cons r s, e => by
    have e' : (match w.dat g, Va.dats g ws with
      | some d, some ds => some (d :: ds)
      | _, _ => none) = some ds := e
    split at e'
    · rename_i d' ds' h1 h2
      cases e'
      exact .cons (dp_of hg r h1) (dps_of hg s h2)
    · cases e'
end
theorem dp_at (rh : RH K mg ρ H h) : ∀ (k n : Nat) (a : Addr) (d : PyData), datH h k n = some d → ρ[n]? = some a → Dp K H (.ref a) d
  | 0, _, _, _, e, _ => by cases e
  | k + 1, n, a, d, e, ea => by
    have e' : cellDat (datH h k) h[n]? = some d := e
    unfold cellDat at e'
    split at e'
    · rename_i ws hc
      obtain ⟨ds, e1, e2⟩ := Option.map_eq_some_iff.mp e'
      subst e2
      obtain ⟨vs, q, r⟩ := rh.at_ n _ a hc ea
      exact .lst (SqL.of q) (dps_of (dp_at rh k) r e1)
    · rename_i ws hc
      obtain ⟨ds, e1, e2⟩ := Option.map_eq_some_iff.mp e'
      subst e2
      obtain ⟨vs, q, r⟩ := rh.at_ n _ a hc ea
      exact .lst (q.sq) (dps_of (dp_at rh k) r e1)
    · cases e'
theorem dp_dat (rh : RH K mg ρ H h) {w : Va} {v : V} {d : PyData} (r : RW K mg ρ H w v) (e : dat h w = some d) : Dp K H v d := dp_of (dp_at rh 3) r e
end
section
variable {X : Cx}
/-- a comparison's reading -/
def rCp (X : Cx) (o : Cp) : R2 := rV2 X.K X.mg fun a b h => ofB h (cmpP h o a b)
theorem ofB_ok {h h' : Hm} {o : Option Bool} {w : Va} (e : ofB h o = .ok w h') : ∃ b, o = some b ∧ w = .bl b ∧ h' = h := by
  cases o with
  | none => cases e
  | some b => cases e; exact ⟨b, rfl, rfl, rfl⟩
/-- comparisons that change nothing, by a rule of the layer -/
theorem cp_by {f : Value → Value → Sem Value} {p : Hm → Va → Va → Option Bool} {r : R2} (ho : OpR X f r)
    (hp : ∀ ρ H h a b x y k, RH X.K X.mg ρ H h → RW X.K X.mg ρ H a x → RW X.K X.mg ρ H b y → p h a b = some k → ∀ Q : VK, Q (.bl k) H → r x y H Q) :
    OpR X f (rV2 X.K X.mg fun a b h => ofB h (p h a b)) := by
  intro pins s σ H x y v u Q I rx ry q
  obtain ⟨ρ, h, a, b, w, h', rh, ra, rb, e, q⟩ := q
  obtain ⟨k, e1, e2, e3⟩ := ofB_ok e
  subst e2 e3
  exact ho pins s σ H x y v u Q I rx ry (hp ρ H _ a b x y k rh ra rb e1 Q (q.now rh (.bl k)))
theorem eqP_some {h : Hm} {a b : Va} {k : Bool} (e : eqP h a b = some k) : ∃ d f, dat h a = some d ∧ dat h b = some f ∧ SeqAt.shaped d = true ∧ SeqAt.shaped f = true ∧ k = PyData.eqv d f := by
  unfold eqP at e
  split at e
  · split at e
    · rename_i d f h1 h2 hs
      cases e
      exact ⟨d, f, h1, h2, hs.1, hs.2, rfl⟩
    · cases e
  · cases e
theorem intP_some {a b : Va} {p : Int × Int} (e : intP a b = some p) : a = .int p.1 ∧ b = .int p.2 := by
  unfold intP at e
  split at e
  · cases e; exact ⟨rfl, rfl⟩
  · cases e
def cpM : Cp → CmpOp
  | .eq => .Eq
  | .ne => .NotEq
  | .lt => .Lt
  | .le => .LtE
  | .gt => .Gt
  | .ge => .GtE
  | .is => .Is
  | .isnot => .IsNot
  | .inn => .In
  | .notin => .NotIn
theorem cp_int {f : Value → Value → Sem Value} {g : Int → Int → Bool} (ho : OpR X f (rI0 fun i j => .bl (g i j))) : OpR X f (rV2 X.K X.mg fun a b h => ofB h ((intP a b).map fun p => g p.1 p.2)) :=
  cp_by (p := fun h a b => (intP a b).map fun p => g p.1 p.2) ho fun ρ H h a b x y k rh ra rb e Q q => by
    obtain ⟨p, e1, e2⟩ := Option.map_eq_some_iff.mp e
    obtain ⟨z1, z2⟩ := intP_some e1
    subst z1 z2 e2
    exact ⟨p.1, p.2, rw_int ra, rw_int rb, q⟩
theorem cp_is {f : Value → Value → Sem Value} {neg : Bool} (h1 : OpR X f (fun x y H Q => y = .non ∧ Q (.bl (if neg then !decide (x = .non) else decide (x = .non))) H))
    (h2 : OpR X f (fun x y H Q => ∃ a b, x = .bl a ∧ y = .bl b ∧ Q (.bl (if neg then !decide (a = b) else decide (a = b))) H)) :
    OpR X f (rV2 X.K X.mg fun a b h => ofB h ((isP a b).map fun k => if neg then !k else k)) :=
  cp_by (p := fun h a b => (isP a b).map fun k => if neg then !k else k) (h1.or h2) fun ρ H h a b x y k rh ra rb e Q q => by
    obtain ⟨c, e1, e2⟩ := Option.map_eq_some_iff.mp e
    unfold isP at e1
    split at e1
    · rename_i c1 d1
      refine .inr ⟨c1, d1, rw_bl ra, rw_bl rb, ?_⟩
      cases e1
      rw [← e2] at q
      have z : (c1 == d1) = decide (c1 = d1) := by cases c1 <;> cases d1 <;> rfl
      rw [z] at q
      exact q
    · cases e1
      refine .inl ⟨rw_non rb, ?_⟩
      have z : isNon a = decide (x = .non) := by
        cases ra <;> first | rfl | (exact (decide_eq_false (fun z => nomatch z)).symm)
      rw [z] at e2
      rw [← e2] at q
      exact q
    · cases e1
theorem op_inT (hu : X.A.units + 65 < cLine) (neg : Bool) {f : Value → Value → Sem Value} (hf : f = compareOp (if neg then .NotIn else .In)) :
    OpR X f (fun x y H Q => ∃ d ds, Dp X.K H x d ∧ Dp X.K H y (.tuple ds) ∧ SeqAt.shaped d = true ∧ SeqAt.shaped (.tuple ds) = true ∧ Q (.bl (if neg then !(ds.any fun z => PyData.eqv z d) else ds.any fun z => PyData.eqv z d)) H) := by
  subst hf
  intro pins s σ H x y v u Q I rx ry q
  obtain ⟨d, ds, hd, he, sd, se, q⟩ := q
  obtain ⟨as, r1⟩ := Dp.reads I d x v hd rx
  obtain ⟨bs, r2⟩ := Dp.reads I (.tuple ds) y u he ry
  cases neg with
  | false => exact SeqAt.in_tuple_reads r2 r1 (SeqAt.canLay_of_shaped se) (SeqAt.canLay_of_shaped sd) (room_in_shaped sd hu) ⟨.bl _, H, I, rfl, q⟩
  | true => exact SeqAt.notIn_tuple_reads r2 r1 (SeqAt.canLay_of_shaped se) (SeqAt.canLay_of_shaped sd) (room_in_shaped sd hu) ⟨.bl _, H, I, rfl, q⟩
theorem cp_in (hu : X.A.units + 65 < cLine) (neg : Bool) {f : Value → Value → Sem Value} (hf : f = compareOp (if neg then .NotIn else .In)) : OpR X f (rV2 X.K X.mg fun a b h => ofB h ((inP h a b).map fun k => if neg then !k else k)) := by
  have h1 : OpR X f (fun x y H Q => ∃ (c : Nat) (z : Str), x = .str ⟨#[c]⟩ ∧ y = .str z ∧ Q (.bl (if neg then !decide (c ∈ z.cps.toList) else decide (c ∈ z.cps.toList))) H) := by
    subst hf
    cases neg with
    | false => exact op_in_sign
    | true => exact op_notIn_sign
  have h2 : OpR X f (fun x y H Q => ∃ d ds, Dp X.K H x d ∧ Dp X.K H y (.list ds) ∧ SeqAt.shaped d = true ∧ SeqAt.shaped (.list ds) = true ∧ Q (.bl (if neg then !(ds.any fun z => PyData.eqv z d) else ds.any fun z => PyData.eqv z d)) H) := by
    subst hf
    cases neg with
    | false => exact op_inD hu
    | true => exact op_notInD hu
  refine cp_by (p := fun h a b => (inP h a b).map fun k => if neg then !k else k) (h1.or (h2.or (op_inT hu neg hf))) fun ρ H h a b x y k rh ra rb e Q q => ?_
  obtain ⟨c, e1, e2⟩ := Option.map_eq_some_iff.mp e
  unfold inP at e1
  split at e1
  · rename_i z1 z2
    split at e1
    · rename_i c1 hc
      cases e1
      have ez : z1 = ⟨#[c1]⟩ := by
        obtain ⟨cps⟩ := z1
        have : cps.toList = [c1] := hc
        rw [← Array.toArray_toList (xs := cps), this]
      subst ez
      rw [← e2] at q
      exact .inl ⟨c1, z2, rw_str ra, rw_str rb, q⟩
    · cases e1
  · rename_i n
    split at e1
    · rename_i d ds g1 g2
      split at e1
      · rename_i hs
        cases e1
        rw [← e2] at q
        exact .inr (.inl ⟨d, ds, dp_dat rh ra g1, dp_dat rh rb g2, hs.1, hs.2, q⟩)
      · cases e1
    · cases e1
  · rename_i ws
    split at e1
    · rename_i d ds g1 g2
      split at e1
      · rename_i hs
        cases e1
        rw [← e2] at q
        exact .inr (.inr ⟨d, ds, dp_dat rh ra g1, dp_dat rh (d := .tuple ds) rb (show (Va.dats (datH h 3) ws).map PyData.tuple = some (.tuple ds) by rw [g2]; rfl), hs.1, hs.2, q⟩)
      · cases e1
    · cases e1
  · cases e1
theorem op_cmp (hu : X.A.units + 65 < cLine) (o : Cp) : OpR X (compareOp (cpM o)) (rCp X o) := by
  cases o with
  | eq =>
    refine cp_by (p := fun h a b => eqP h a b) (op_eqD (by omega)) fun ρ H h a b x y k rh ra rb e Q q => ?_
    obtain ⟨d, f, g1, g2, s1, s2, rfl⟩ := eqP_some e
    exact ⟨d, f, dp_dat rh ra g1, dp_dat rh rb g2, s1, s2, q⟩
  | ne =>
    refine cp_by (p := fun h a b => (eqP h a b).map (!·)) (op_neD (by omega)) fun ρ H h a b x y k rh ra rb e Q q => ?_
    obtain ⟨c, e1, rfl⟩ := Option.map_eq_some_iff.mp e
    obtain ⟨d, f, g1, g2, s1, s2, rfl⟩ := eqP_some e1
    exact ⟨d, f, dp_dat rh ra g1, dp_dat rh rb g2, s1, s2, q⟩
  | lt => exact cp_int op_lt
  | le => exact cp_int op_le
  | gt => exact cp_int op_gt
  | ge => exact cp_int op_ge
  | is =>
    have z := cp_is (X := X) (neg := false) (f := compareOp .Is) op_isN op_is_bl
    simpa [rCp, cmpP, cpM] using z
  | isnot =>
    have z := cp_is (X := X) (neg := true) (f := compareOp .IsNot) op_notN op_isnot_bl
    simpa [rCp, cmpP, cpM] using z
  | inn =>
    have z := cp_in (X := X) hu false (f := compareOp .In) rfl
    simpa [rCp, cmpP, cpM] using z
  | notin =>
    have z := cp_in (X := X) hu true (f := compareOp .NotIn) rfl
    simpa [rCp, cmpP, cpM] using z
/-! ### o[i] -/
theorem atI_rw {K : PySem.W.Frag} {mg : Str → Option Value} {ρ : List Addr} {H : Hp} {ws : List Va} {vs : List V} {i : Int} {w : Va} (r : RWs K mg ρ H ws vs) (e : atI ws i = some w) : ∃ v, L2.atI vs i = some v ∧ RW K mg ρ H w v := by
  unfold atI at e
  rw [r.len] at e
  obtain ⟨j, e1, e2⟩ := Option.bind_eq_some_iff.mp e
  obtain ⟨v, e3, q⟩ := r.get e2
  exact ⟨v, by unfold L2.atI; rw [e1]; exact e3, q⟩
theorem ix_any : IxR X (rV2 X.K X.mg idxV) := by
  intro value slice pins s σ H x y v u Q I rx ry q hsl
  refine ix_seq value slice pins s σ H x y v u Q I rx ry ?_ hsl
  obtain ⟨ρ, h, a, b, w, h', rh, ra, rb, e, q⟩ := q
  unfold idxV at e
  split at e
  · split at e
    · rename_i g
      cases e
      obtain ⟨p, vs, e1, s1, r1⟩ := rw_tup ra
      subst e1
      obtain ⟨z, g', rz⟩ := atI_rw r1 g
      exact .inr (.inl ⟨p, vs, _, z, rfl, rw_int rb, s1, g', q.now rh rz⟩)
    · cases e
  · split at e
    · rename_i g
      cases e
      obtain ⟨p, e1, m1⟩ := rw_ref ra
      subst e1
      obtain ⟨ws, g1, g2⟩ := Option.bind_eq_some_iff.mp g
      obtain ⟨vs, s1, r1⟩ := rh.seq g1 m1
      obtain ⟨z, g', rz⟩ := atI_rw r1 g2
      exact .inl ⟨p, vs, _, z, rfl, rw_int rb, s1, g', q.now rh rz⟩
    · cases e
  · split at e
    · rename_i hl
      split at e
      · rename_i g
        cases e
        exact .inr (.inr ⟨_, _, _, rw_str ra, rw_int rb, hl, g, q.now rh (.str _)⟩)
      · cases e
    · cases e
  · cases e
/-! ### o[lo:hi] -/
theorem cutL_len {α : Type} (xs : List α) (lo hi : Option Int) : (cutL xs lo hi).length ≤ xs.length := by
  unfold cutL
  rw [List.length_take, List.length_drop]
  omega
theorem cutL_all {α : Type} {xs : List α} {lo hi : Option Int} (h : HT.sIx xs.length 0 lo = 0 ∧ HT.sIx xs.length xs.length hi = xs.length) : cutL xs lo hi = xs := by
  unfold cutL
  rw [h.1, h.2]
  exact List.take_of_length_le (by rw [List.length_drop]; omega)
theorem cutS_eq (z : Str) (lo hi : Option Int) : cutS z lo hi = ⟨(cutL z.cps.toList lo hi).toArray⟩ := by
  unfold cutS cutL
  have e : z.cps.toList.length = z.length := by simp [Str.length]
  rw [e]
theorem cutL_rw {K : PySem.W.Frag} {mg : Str → Option Value} {ρ : List Addr} {H : Hp} {ws : List Va} {vs : List V} {lo hi : Option Int} (r : RWs K mg ρ H ws vs) : RWs K mg ρ H (cutL ws lo hi) (cutV vs lo hi) := by
  unfold cutL cutV
  rw [r.len]
  exact (r.drop _).take _
def rSl (X : Cx) : V → Option Int → Option Int → Hp → VK → Prop := fun x lo hi H Q => rV1 X.K X.mg (slcV lo hi) x H Q
theorem sl_any : SlR X (rSl X) := by
  intro pins s σ H x v vl vu lo hi sl Q I rx hs pl pu q
  refine (sl_list.or (sl_tupA.or sl_str)) pins s σ H x v vl vu lo hi sl Q I rx hs pl pu ?_
  obtain ⟨ρ, h, a, w, h', rh, ra, e, q⟩ := q
  unfold slcV at e
  split at e
  · cases e
    obtain ⟨p, vs, e1, s1, r1⟩ := rw_tup ra
    subst e1
    refine .inr (.inl ⟨p, vs, rfl, s1, fun z => ?_, fun _ c hc => q.tup rh (cutL_rw r1) hc⟩)
    rw [← r1.len] at z
    rw [cutL_all z] at q
    exact q.now rh (.tup s1 r1)
  · split at e
    · rename_i g
      cases e
      obtain ⟨p, e1, m1⟩ := rw_ref ra
      subst e1
      obtain ⟨vs, s1, r1⟩ := rh.seq g m1
      exact .inl ⟨p, vs, rfl, s1, fun c hc => q.lst rh (cutL_rw r1) hc⟩
    · cases e
  · split at e
    · rename_i hl
      cases e
      exact .inr (.inr ⟨_, rw_str ra, hl, by
        rw [cutS_eq]
        exact q.now rh (.str _)⟩)
    · cases e
  · cases e
end
end Vy
set_option maxHeartbeats 1000000
/-! built-in functions, methods of built-in types -/
namespace Vy
open PySem PySem.Spec PyProof.Rows L2
section
variable {K : PySem.W.Frag} {mg : Str → Option Value} {ρ ρ' : List Addr} {H H' : Hp} {h h' : Hm}
theorem rws_1 {w : Va} {xs : List V} (r : RWs K mg ρ H [w] xs) : ∃ v, xs = [v] ∧ RW K mg ρ H w v := by
  cases r with
  | cons a t =>
    cases t
    exact ⟨_, rfl, a⟩
theorem rws_2 {w u : Va} {xs : List V} (r : RWs K mg ρ H [w, u] xs) : ∃ v z, xs = [v, z] ∧ RW K mg ρ H w v ∧ RW K mg ρ H u z := by
  cases r with
  | cons a t =>
    obtain ⟨z, e, b⟩ := rws_1 t
    subst e
    exact ⟨_, _, rfl, a, b⟩
theorem rws_3 {w u t : Va} {xs : List V} (r : RWs K mg ρ H [w, u, t] xs) : ∃ v z y, xs = [v, z, y] ∧ RW K mg ρ H w v ∧ RW K mg ρ H u z ∧ RW K mg ρ H t y := by
  cases r with
  | cons a t =>
    obtain ⟨z, y, e, b, c⟩ := rws_2 t
    subst e
    exact ⟨_, _, _, rfl, a, b, c⟩
theorem rws_ints : ∀ {ws : List Va} {xs : List V} {l : List Int}, RWs K mg ρ H ws xs → intsV ws = some l → xs = l.map V.int
  | _, _, _, .nil, e => by cases e; rfl
  | w :: ws, _, _, .cons r s, e => by
    cases r with
    | int i =>
      have e' : (intsV ws).map (i :: ·) = some _ := e
      obtain ⟨l', e1, e2⟩ := Option.map_eq_some_iff.mp e'
      subst e2
      rw [rws_ints s e1]
      rfl
    | _ => cases e
theorem rws_bools : ∀ {ws : List Va} {xs : List V} {l : List Bool}, RWs K mg ρ H ws xs → boolsV ws = some l → xs = l.map V.bl
  | _, _, _, .nil, e => by cases e; rfl
  | w :: ws, _, _, .cons r s, e => by
    cases r with
    | bl i =>
      have e' : (boolsV ws).map (i :: ·) = some _ := e
      obtain ⟨l', e1, e2⟩ := Option.map_eq_some_iff.mp e'
      subst e2
      rw [rws_bools s e1]
      rfl
    | _ => cases e
theorem rws_strs : ∀ {ws : List Va} {xs : List V} {l : List Str}, RWs K mg ρ H ws xs → strsV ws = some l → xs = l.map V.str
  | _, _, _, .nil, e => by cases e; rfl
  | w :: ws, _, _, .cons r s, e => by
    cases r with
    | str i =>
      have e' : (strsV ws).map (i :: ·) = some _ := e
      obtain ⟨l', e1, e2⟩ := Option.map_eq_some_iff.mp e'
      subst e2
      rw [rws_strs s e1]
      rfl
    | _ => cases e
theorem strs_rws (l : List Str) : RWs K mg ρ H (l.map Va.str) (l.map V.str) := by
  induction l with
  | nil => exact .nil
  | cons a r ih => exact .cons (.str a) ih
theorem ints_rws (l : List Int) : RWs K mg ρ H (l.map Va.int) (l.map V.int) := by
  induction l with
  | nil => exact .nil
  | cons a r ih => exact .cons (.int a) ih
/-- the items of a list or a tuple that is read -/
theorem RH.items (rh : RH K mg ρ H h) {w : Va} {v : V} {ws : List Va} (r : RW K mg ρ H w v) (e : itemsV h w = some ws) : ∃ p vs, v = .ref p ∧ (SqL K H p vs ∨ SqT K H p vs) ∧ RWs K mg ρ H ws vs := by
  cases r with
  | tup s q =>
    cases e
    exact ⟨_, _, rfl, .inr s, q⟩
  | ref ea =>
    obtain ⟨vs, s, q⟩ := rh.seq e ea
    exact ⟨_, vs, rfl, .inl s, q⟩
  | _ => cases e
theorem ofO_ok {w : Va} {o : Option Va} (e : ofO h o = .ok w h') : o = some w ∧ h' = h := by
  cases o with
  | none => cases e
  | some x => cases e; exact ⟨rfl, rfl⟩
theorem newL_ok {w : Va} {ws : List Va} (e : newL h ws = .ok w h') : ws.length ≤ sizeLine ∧ w = .ref h.length ∧ h' = h ++ [.lst ws] := by
  unfold newL at e
  split at e
  · rename_i hl
    cases e
    exact ⟨hl, rfl, rfl⟩
  · cases e
/-- the kinds of values that isinstance tells apart -/
theorem kit_tab : ∀ t ∈ ["NoneType", "bool", "int", "str", "tuple", "list"], ∀ n ∈ tyNames, kitB t n = some (tyRel t n) := by decide +kernel
theorem tuple_ty {a : Addr} {vs : List V} (s : SqT K H a vs) : TyX K H (.ref a) (.type "tuple") := by
  rcases s with (s | ⟨o, s⟩) | ⟨o, its, n, hk, hc, hd, _, _⟩
  · exact .base (.tup s)
  · exact .fTuple s
  · exact .kTuple hk hc
theorem list_ty {a : Addr} {vs : List V} (s : SqL K H a vs) : TyX K H (.ref a) (.type "list") := by
  rcases s with (s | ⟨o, s⟩) | ⟨o, its, n, hk, hc, hd, _, _⟩
  · exact .base (.lst s)
  · exact .base (.frz s)
  · exact .kList hk hc
theorem isTy_ok (rh : RH K mg ρ H h) {w : Va} {v : V} {n : String} {b : Bool} (r : RW K mg ρ H w v) (hn : tyOk n = true) (e : isTy h w n = some b) : ∃ t, TyX K H v t ∧ PySem.W.kitOne K t (.type n) = some b := by
  have hm : n ∈ tyNames := List.contains_iff_mem.mp hn
  cases r with
  | non => cases e; exact ⟨_, .base .non, kit_ty (kit_tab _ (by simp) n hm)⟩
  | bl b => cases e; exact ⟨_, .base (.bl b), kit_ty (kit_tab _ (by simp) n hm)⟩
  | int b => cases e; exact ⟨_, .base (.int b), kit_ty (kit_tab _ (by simp) n hm)⟩
  | str b => cases e; exact ⟨_, .base (.str b), kit_ty (kit_tab _ (by simp) n hm)⟩
  | tup s q => cases e; exact ⟨_, tuple_ty s, kit_ty (kit_tab _ (by simp) n hm)⟩
  | ref ea =>
    obtain ⟨ws, e1, e2⟩ := Option.map_eq_some_iff.mp e
    obtain ⟨vs, s, q⟩ := rh.seq e1 ea
    rw [← e2]
    exact ⟨_, list_ty s, kit_ty (kit_tab _ (by simp) n hm)⟩
  | _ => cases e
end
theorem foldMin (l : List Int) : ∀ i : Int, l.foldl (fun a b => if b < a then b else a) i ∈ i :: l ∧ ∀ y ∈ i :: l, l.foldl (fun a b => if b < a then b else a) i ≤ y := by
  induction l with
  | nil => intro i; simp
  | cons x l ih =>
    intro i
    obtain ⟨h1, h2⟩ := ih (if x < i then x else i)
    refine ⟨?_, fun y hy => ?_⟩
    · show l.foldl _ (if x < i then x else i) ∈ i :: x :: l
      rcases List.mem_cons.mp h1 with z | z
      · rw [z]
        split <;> simp
      · exact List.mem_cons_of_mem _ (List.mem_cons_of_mem _ z)
    · show l.foldl _ (if x < i then x else i) ≤ y
      have h3 := h2 _ List.mem_cons_self
      have h4 : (if x < i then x else i) ≤ i ∧ (if x < i then x else i) ≤ x := by split <;> omega
      rcases List.mem_cons.mp hy with z | hy
      · rw [z]
        omega
      · rcases List.mem_cons.mp hy with z | hy
        · rw [z]
          omega
        · exact h2 y (List.mem_cons_of_mem _ hy)
theorem foldMax (l : List Int) : ∀ i : Int, l.foldl (fun a b => if b > a then b else a) i ∈ i :: l ∧ ∀ y ∈ i :: l, y ≤ l.foldl (fun a b => if b > a then b else a) i := by
  induction l with
  | nil => intro i; simp
  | cons x l ih =>
    intro i
    obtain ⟨h1, h2⟩ := ih (if x > i then x else i)
    refine ⟨?_, fun y hy => ?_⟩
    · show l.foldl _ (if x > i then x else i) ∈ i :: x :: l
      rcases List.mem_cons.mp h1 with z | z
      · rw [z]
        split <;> simp
      · exact List.mem_cons_of_mem _ (List.mem_cons_of_mem _ z)
    · show y ≤ l.foldl _ (if x > i then x else i)
      have h3 := h2 _ List.mem_cons_self
      have h4 : i ≤ (if x > i then x else i) ∧ x ≤ (if x > i then x else i) := by split <;> omega
      rcases List.mem_cons.mp hy with z | hy
      · rw [z]
        omega
      · rcases List.mem_cons.mp hy with z | hy
        · rw [z]
          omega
        · exact h2 y (List.mem_cons_of_mem _ hy)
section
variable {X : Cx}
/-- the function or the type that is called -/
def biF : Bi → Value
  | .len => .builtin "len"
  | .abs => .builtin "abs"
  | .int => .type "int"
  | .str => .type "str"
  | .sum => .builtin "sum"
  | .min => .builtin "min"
  | .max => .builtin "max"
  | .tuple => .type "tuple"
  | .list => .type "list"
  | .all => .builtin "all"
  | .any => .builtin "any"
  | .isinst => .builtin "isinstance"
  | .repr => .builtin "repr"
  | .sorted => .builtin "sorted"
  | .lrange => .type "list"
  | .listd => .type "list"
/-- a call by its arguments' values -/
def Bi.plain : Bi → Bool
  | .lrange => false
  | .sorted => false
  | _ => true
/-- what the context gives -/
structure Cal (X : Cx) : Prop where
  calm : X.calm = true
  un : X.A.units + 200 < cLine
  gs : X.A.guards = some []
theorem cr_repr (c : Cal X) : CallR X (.builtin "repr") (fun xs H Q => ∃ x d, xs = [x] ∧ Dp X.K H x d ∧ d.showable = true ∧ d.hasDict = false ∧ d.depth ≤ 100 ∧ d.shown.length ≤ sizeLine ∧ Q (.str d.shown) H) := by
  intro pins s σ H xs us Q I r q
  obtain ⟨x, d, rfl, hd, hs, hn, h6, hz, q⟩ := q
  obtain ⟨u, rfl, ru⟩ := vals1 r
  obtain ⟨as, rd⟩ := Dp.reads I d x u hd ru
  have hu := c.un
  cases rd with
  | none => exact PySem.P.repr_of_none ⟨.str _, H, I.tok _, ⟨s.toks, by simp only [PyData.shown]⟩, q⟩
  | bool b => exact PySem.P.repr_of_bool ⟨.str _, H, I.tok _, ⟨s.toks, by simp only [PyData.shown]⟩, q⟩
  | int i t => exact PySem.P.repr_of_int (by simpa [PyData.showable] using hs) ⟨.str _, H, I.tok _, ⟨s.toks, by simp only [PyData.shown]⟩, q⟩
  | str y t => exact PySem.P.repr_of_str ⟨.str _, H, I.tok _, ⟨s.toks, by simp only [PyData.shown]⟩, q⟩ (by simpa only [PyData.shown] using hz)
  | list h1 h2 h3 h4 => exact PySem.repr_of_reads' (.list h1 h2 h3 h4) hs (fun e => by rw [hn] at e; cases e) c.gs (by omega) (fun _ _ e => e) (fun h' u tk hk => ⟨.str _, H, I.kept hk, ⟨_, rfl⟩, q⟩) hz
  | tuple h1 h2 h3 h4 => exact PySem.repr_of_reads' (.tuple h1 h2 h3 h4) hs (fun e => by rw [hn] at e; cases e) c.gs (by omega) (fun _ _ e => e) (fun h' u tk hk => ⟨.str _, H, I.kept hk, ⟨_, rfl⟩, q⟩) hz
  | _ => exact absurd hn (by simp [PyData.hasDict])
theorem kd_rws {K : PySem.W.Frag} {mg : Str → Option Value} {ρ : List Addr} {H : Hp} : ∀ {ks : List (List Int)} {bs : List Addr}, IsKeys H (kdE ks) bs → RWs K mg ρ H (ks.map kdVa) (bs.map V.ref)
  | [], [], _ => .nil
  | [], _ :: _, h => nomatch (show Paired _ [] (_ :: _) from h)
  | _ :: _, [], h => nomatch (show Paired _ (_ :: _) [] from h)
  | k :: ks, b :: bs, h => by
    have h' : Paired (fun (p : List Key × V) (b : Addr) => H b = some (.tup (p.1.map kV))) ((k.map Sum.inl, V.bl true) :: kdE ks) (b :: bs) := h
    cases h' with
    | cons h1 h2 =>
      refine .cons (.tup (.inl (.inl h1)) ?_) (kd_rws h2)
      have gen : ∀ l : List Int, RWs K mg ρ H (l.map Va.int) ((l.map (Sum.inl : Int → Key)).map kV) := by
        intro l
        induction l with
        | nil => exact .nil
        | cons i l ih => exact .cons (.int i) ih
      exact gen k
theorem cr_bi (c : Cal X) (b : Bi) (hb : b.plain = true) : CallR X (biF b) (rVs X.K X.mg (biV b)) := by
  intro pins s σ H xs us Q I r q
  obtain ⟨ρ, h, ws, w, h', rh, rw', e, q⟩ := q
  unfold biV at e
  split at e
  · -- len
    obtain ⟨e, rfl⟩ := ofO_ok e
    obtain ⟨v, rfl, rv⟩ := rws_1 rw'
    obtain ⟨n, e1, rfl⟩ := Option.map_eq_some_iff.mp e
    refine call_len pins s σ H _ us Q I r ⟨v, n, rfl, ?_, q.now rh (.int _)⟩
    cases rv with
    | tup s1 r1 =>
      cases e1
      exact .inr ⟨_, s1, r1.len⟩
    | str x =>
      have e2 : (if x.length ≤ sizeLine then some x.length else none) = some n := e1
      split at e2
      · rename_i hl
        cases e2
        exact ⟨hl, rfl⟩
      · cases e2
    | ref ea =>
      obtain ⟨ws, g1, g2⟩ := Option.map_eq_some_iff.mp e1
      obtain ⟨vs, s1, r1⟩ := rh.seq g1 ea
      exact .inl ⟨vs, s1, by rw [← g2]; exact r1.len⟩
    | _ => cases e1
  · -- abs
    cases e
    obtain ⟨v, rfl, rv⟩ := rws_1 rw'
    cases rv
    exact call_abs pins s σ H _ us Q I r ⟨_, rfl, q.now rh (.int _)⟩
  · cases e
    obtain ⟨v, rfl, rv⟩ := rws_1 rw'
    cases rv
    exact call_int1 pins s σ H _ us Q I r (.inl ⟨_, rfl, q.now rh (.int _)⟩)
  · cases e
    obtain ⟨v, rfl, rv⟩ := rws_1 rw'
    cases rv
    exact call_int1 pins s σ H _ us Q I r (.inr ⟨_, rfl, q.now rh (.int _)⟩)
  · split at e
    · rename_i n hn
      split at e
      · rename_i hl
        cases e
        obtain ⟨v, rfl, rv⟩ := rws_1 rw'
        cases rv
        exact call_int_str pins s σ H _ us Q I r ⟨_, n, rfl, hn, hl, q.now rh (.int _)⟩
      · cases e
    · cases e
  · split at e
    · rename_i hl
      cases e
      obtain ⟨v, rfl, rv⟩ := rws_1 rw'
      cases rv
      exact call_str_int pins s σ H _ us Q I r ⟨_, rfl, hl, q.now rh (.str _)⟩
    · cases e
  · cases e
    obtain ⟨v, rfl, rv⟩ := rws_1 rw'
    cases rv
    exact SkE.call_str_str pins s σ H _ us Q I r ⟨_, rfl, q.now rh (.str _)⟩
  · -- sum
    obtain ⟨e, rfl⟩ := ofO_ok e
    obtain ⟨v, rfl, rv⟩ := rws_1 rw'
    obtain ⟨p, rfl, ea⟩ := rw_ref rv
    obtain ⟨l, e1, rfl⟩ := Option.map_eq_some_iff.mp e
    obtain ⟨us', e2, e3⟩ := Option.bind_eq_some_iff.mp e1
    obtain ⟨vs, s1, r1⟩ := rh.seq e2 ea
    rw [rws_ints r1 e3] at s1
    exact cr_sum c.calm pins s σ H _ us Q I r ⟨p, l, rfl, s1, q.now rh (.int _)⟩
  · cases e
    obtain ⟨v, z, rfl, rv, rz⟩ := rws_2 rw'
    cases rv
    cases rz
    exact call_min2 c.calm pins s σ H _ us Q I r ⟨_, _, rfl, q.now rh (.int _)⟩
  · cases e
    obtain ⟨v, z, rfl, rv, rz⟩ := rws_2 rw'
    cases rv
    cases rz
    exact call_max2 c.calm pins s σ H _ us Q I r ⟨_, _, rfl, q.now rh (.int _)⟩
  · split at e
    · rename_i i l e1
      cases e
      obtain ⟨v, rfl, rv⟩ := rws_1 rw'
      obtain ⟨p, rfl, ea⟩ := rw_ref rv
      obtain ⟨us', e2, e3⟩ := Option.bind_eq_some_iff.mp e1
      obtain ⟨vs, s1, r1⟩ := rh.seq e2 ea
      rw [rws_ints r1 e3] at s1
      refine cr_min c.calm pins s σ H _ us Q I r ⟨p, _, rfl, s1, by simp, fun m hm hall => ?_⟩
      obtain ⟨z1, z2⟩ := foldMin l i
      have : m = l.foldl (fun a b => if b < a then b else a) i := Int.le_antisymm (hall _ z1) (z2 _ hm)
      rw [this]
      exact q.now rh (.int _)
    · cases e
  · split at e
    · rename_i i l e1
      cases e
      obtain ⟨v, rfl, rv⟩ := rws_1 rw'
      obtain ⟨p, rfl, ea⟩ := rw_ref rv
      obtain ⟨us', e2, e3⟩ := Option.bind_eq_some_iff.mp e1
      obtain ⟨vs, s1, r1⟩ := rh.seq e2 ea
      rw [rws_ints r1 e3] at s1
      refine cr_max c.calm pins s σ H _ us Q I r ⟨p, _, rfl, s1, by simp, fun m hm hall => ?_⟩
      obtain ⟨z1, z2⟩ := foldMax l i
      have : m = l.foldl (fun a b => if b > a then b else a) i := Int.le_antisymm (z2 _ hm) (hall _ z1)
      rw [this]
      exact q.now rh (.int _)
    · cases e
  · -- tuple
    obtain ⟨e, rfl⟩ := ofO_ok e
    obtain ⟨v, rfl, rv⟩ := rws_1 rw'
    obtain ⟨l, e1, rfl⟩ := Option.map_eq_some_iff.mp e
    cases rv with
    | tup s1 r1 =>
      cases e1
      exact call_tuple_of pins s σ H _ us Q I r ⟨_, _, rfl, .inr ⟨s1, q.now rh (.tup s1 r1)⟩⟩
    | ref ea =>
      obtain ⟨vs, s1, r1⟩ := rh.seq e1 ea
      exact call_tuple_of pins s σ H _ us Q I r ⟨_, _, rfl, .inl ⟨s1, fun p hp => q.tup rh r1 hp⟩⟩
    | _ => cases e1
  · -- list
    split at e
    · rename_i l e1
      obtain ⟨hl, rfl, rfl⟩ := newL_ok e
      obtain ⟨v, rfl, rv⟩ := rws_1 rw'
      obtain ⟨p, vs, rfl, s1, r1⟩ := rh.items rv e1
      exact call_list_of pins s σ H _ us Q I r ⟨p, vs, rfl, s1, fun p hp => q.lst rh r1 hp⟩
    · cases e
  · -- all
    obtain ⟨e, rfl⟩ := ofO_ok e
    obtain ⟨v, rfl, rv⟩ := rws_1 rw'
    obtain ⟨p, rfl, ea⟩ := rw_ref rv
    obtain ⟨l, e1, rfl⟩ := Option.map_eq_some_iff.mp e
    obtain ⟨us', e2, e3⟩ := Option.bind_eq_some_iff.mp e1
    obtain ⟨vs, s1, r1⟩ := rh.seq e2 ea
    rw [rws_bools r1 e3] at s1
    exact cr_all c.calm pins s σ H _ us Q I r ⟨p, l, rfl, s1, q.now rh (.bl _)⟩
  · obtain ⟨e, rfl⟩ := ofO_ok e
    obtain ⟨v, rfl, rv⟩ := rws_1 rw'
    obtain ⟨p, rfl, ea⟩ := rw_ref rv
    obtain ⟨l, e1, rfl⟩ := Option.map_eq_some_iff.mp e
    obtain ⟨us', e2, e3⟩ := Option.bind_eq_some_iff.mp e1
    obtain ⟨vs, s1, r1⟩ := rh.seq e2 ea
    rw [rws_bools r1 e3] at s1
    exact cr_any c.calm pins s σ H _ us Q I r ⟨p, l, rfl, s1, q.now rh (.bl _)⟩
  · -- isinstance
    split at e
    · rename_i hn
      obtain ⟨e, rfl⟩ := ofO_ok e
      obtain ⟨v, z, rfl, rv, rz⟩ := rws_2 rw'
      cases rz
      obtain ⟨b, e1, rfl⟩ := Option.map_eq_some_iff.mp e
      obtain ⟨t, ty, kt⟩ := isTy_ok rh rv hn e1
      exact call_isi pins s σ H _ us Q I r ⟨v, _, t, _, b, rfl, .ty _, ty, kt, q.now rh (.bl _)⟩
    · cases e
  · -- repr
    obtain ⟨e, rfl⟩ := ofO_ok e
    obtain ⟨v, rfl, rv⟩ := rws_1 rw'
    obtain ⟨z, e1, rfl⟩ := Option.map_eq_some_iff.mp e
    unfold reprV at e1
    split at e1
    · rename_i d hd
      split at e1
      · rename_i hc
        cases e1
        exact cr_repr c pins s σ H _ us Q I r ⟨v, d, rfl, dp_dat rh rv hd, hc.1, hc.2.1, hc.2.2.1, by omega, q.now rh (.str _)⟩
      · cases e1
    · cases e1
  · exact absurd hb (by simp [Bi.plain])
  · -- list of a dict's keys
    split at e
    · rename_i n _ ks hc
      obtain ⟨hl, rfl, rfl⟩ := newL_ok e
      obtain ⟨v, rfl, rv⟩ := rws_1 rw'
      obtain ⟨p, rfl, ea⟩ := rw_ref rv
      have hd : H p = some (.dT (kdE ks)) := rh.at_ n _ p hc ea
      refine call_list_dT c.calm pins s σ H _ us Q I r ⟨p, kdE ks, rfl, .inl hd, fun p2 bs hp keys => q.lst rh ?_ hp⟩
      exact kd_rws keys
    · cases e
  · cases e
end
end Vy
set_option maxHeartbeats 1000000
/-! methods of built-in types; tests; and, or, not; displays; arguments -/
namespace Vy
open PySem PySem.Spec PyProof.Rows L2
section
variable {X : Cx}
/-- the type that has the method, its name, the function -/
def meT : Me → String
  | .join => "str"
  | .split => "str"
  | .zfill => "str"
  | _ => "list"
def meN : Me → String
  | .append => "append"
  | .extend => "extend"
  | .pop => "pop"
  | .popAt => "pop"
  | .insert => "insert"
  | .join => "join"
  | .split => "split"
  | .zfill => "zfill"
def meF : Me → String
  | .append => "list.append"
  | .extend => "list.extend"
  | .pop => "list.pop"
  | .popAt => "list.pop"
  | .insert => "list.insert"
  | .join => "str.join"
  | .split => "str.split"
  | .zfill => "str.zfill"
theorem mt_me (m : Me) : MtR X (meF m) (rVm X.K X.mg (meV m)) := by
  intro pins s σ H x xs v us Q I rx rxs q
  obtain ⟨ρ, h, a, ws, w, h', rh, ra, rws, e, q⟩ := q
  unfold meV at e
  split at e
  · -- append
    split at e
    · rename_i ws' hc
      split at e
      · rename_i hl
        cases e
        obtain ⟨p, rfl, ea⟩ := rw_ref ra
        obtain ⟨y, rfl, ry⟩ := rws_1 rws
        obtain ⟨vs, g, r⟩ := rh.lst hc ea
        refine mt_append pins s σ H _ _ v us Q I rx rxs ⟨p, vs, y, rfl, rfl, g, by rw [← r.len]; exact hl, ?_⟩
        obtain ⟨f, rh'⟩ := rh.write hc ea g (r.snoc ry)
        exact q ρ _ _ f rh' .non
      · cases e
    · cases e
  · -- extend
    split at e
    · rename_i ws' us' hc hd
      split at e
      · rename_i hl
        cases e
        obtain ⟨p, rfl, ea⟩ := rw_ref ra
        obtain ⟨y, rfl, ry⟩ := rws_1 rws
        obtain ⟨p2, rfl, eb⟩ := rw_ref ry
        obtain ⟨vs, g, r⟩ := rh.lst hc ea
        obtain ⟨zs, g2, r2⟩ := rh.lst hd eb
        refine mt_extend pins s σ H _ _ v us Q I rx rxs ⟨p, p2, vs, zs, rfl, rfl, g, g2, by rw [← r.len, ← r2.len]; exact hl.1, ?_⟩
        obtain ⟨f, rh'⟩ := rh.write hc ea g (r.app r2)
        exact q ρ _ _ f rh' .non
      · cases e
    · cases e
  · -- pop
    split at e
    · rename_i ws' hc
      split at e
      · rename_i u hu
        cases e
        obtain ⟨p, rfl, ea⟩ := rw_ref ra
        cases rws
        obtain ⟨vs, g, r⟩ := rh.lst hc ea
        have hu' : ws'[ws'.length - 1]? = some w := by rw [← List.getLast?_eq_getElem?]; exact hu
        obtain ⟨y, hy, ry⟩ := r.get hu'
        have rd : RWs X.K X.mg ρ H ws'.dropLast vs.dropLast := by
          rw [List.dropLast_eq_take, List.dropLast_eq_take, r.len]
          exact r.take _
        refine mt_pop pins s σ H _ _ v us Q I rx rxs ⟨p, vs, y, rfl, rfl, g, by rw [← r.len]; exact hy, ?_⟩
        obtain ⟨f, rh'⟩ := rh.write hc ea g rd
        exact q ρ _ _ f rh' (ry.fut f)
      · cases e
    · cases e
  · -- pop(i)
    split at e
    · rename_i ws' hc
      split at e
      · rename_i h0
        split at e
        · rename_i u hu
          cases e
          obtain ⟨p, rfl, ea⟩ := rw_ref ra
          obtain ⟨y, rfl, ry⟩ := rws_1 rws
          have hy0 := rw_int ry
          subst hy0
          obtain ⟨vs, g, r⟩ := rh.lst hc ea
          obtain ⟨y, hy, ry2⟩ := r.get hu
          have hlt := (List.getElem?_eq_some_iff.mp hy).1
          have hz : vs.length ≤ sizeLine := (I.hok _ _ g).1
          have hs := sizeLine_eq
          have hix := (ixN_seq (n := vs.length) (by unfold ixN; rw [if_pos h0, if_pos (by omega)])).1
          refine mt_popAt pins s σ H _ _ v us Q I rx rxs ⟨p, vs, _, _, y, rfl, rfl, g, by omega, by omega, hix, hy, ?_⟩
          obtain ⟨f, rh'⟩ := rh.write hc ea g (r.eraseIdx _)
          exact q ρ _ _ f rh' (ry2.fut f)
        · cases e
      · cases e
    · cases e
  · -- insert
    split at e
    · rename_i ws' hc
      split at e
      · rename_i hl
        cases e
        obtain ⟨p, rfl, ea⟩ := rw_ref ra
        obtain ⟨y, z, rfl, ry, rz⟩ := rws_2 rws
        have hy0 := rw_int ry
        subst hy0
        obtain ⟨vs, g, r⟩ := rh.lst hc ea
        refine mt_insert pins s σ H _ _ v us Q I rx rxs ⟨p, vs, _, z, rfl, rfl, g, by rw [← r.len]; exact hl.2.2, hl.1, Int.lt_trans hl.2.1 (by decide), ?_⟩
        obtain ⟨f, rh'⟩ := rh.write hc ea g (((r.take _).snoc rz).app (r.drop _))
        exact q ρ _ _ f rh' .non
      · cases e
    · cases e
  · -- join
    split at e
    · rename_i l hl
      split at e
      · rename_i hz
        cases e
        obtain ⟨us', e1, e2⟩ := Option.bind_eq_some_iff.mp hl
        obtain ⟨y, rfl, ry⟩ := rws_1 rws
        obtain ⟨p, rfl, ea⟩ := rw_ref ry
        obtain ⟨vs, s1, r1⟩ := rh.seq e1 ea
        rw [rws_strs r1 e2] at s1
        have hs := sizeLine_eq
        exact mt_join pins s σ H _ _ v us Q I rx rxs ⟨_, p, l, rw_str ra, rfl, .inl s1, by omega, q.now rh (.str _)⟩
      · cases e
    · cases e
  · -- split
    split at e
    · rename_i hz
      obtain ⟨hl, rfl, rfl⟩ := newL_ok e
      obtain ⟨y, rfl, ry⟩ := rws_1 rws
      cases ry
      exact mt_split pins s σ H _ _ v us Q I rx rxs ⟨_, _, rw_str ra, rfl, hz.1, hz.2, fun p hp => q.lst rh (strs_rws _) hp⟩
    · cases e
  · split at e
    · rename_i hz
      cases e
      obtain ⟨y, rfl, ry⟩ := rws_1 rws
      cases ry
      exact mt_zfill pins s σ H _ _ v us Q I rx rxs ⟨_, _, rw_str ra, rfl, hz, q.now rh (.str _)⟩
    · cases e
  · cases e
/-- the receiver is of the method's type -/
theorem me_ty {ρ : List Addr} {H : Hp} {h : Hm} {m : Me} {a : Va} {x : V} (rh : RH X.K X.mg ρ H h) (ra : RW X.K X.mg ρ H a x) (e : recOk m a h = true) : tyV X.K (meT m) x H := by
  unfold recOk at e
  split at e
  · cases ra
    cases m <;> first | rfl | cases e
  · obtain ⟨p, rfl, ea⟩ := rw_ref ra
    rw [Bool.and_eq_true] at e
    obtain ⟨ws, e1⟩ := Option.isSome_iff_exists.mp e.2
    obtain ⟨vs, s1, r1⟩ := rh.seq e1 ea
    have z : meT m = "list" := by cases m <;> first | rfl | cases e.1
    rw [z]
    exact .inl ⟨rfl, vs, s1⟩
  · cases e
theorem me_slot (m : Me) : Slot (meT m) (meN m) (meF m) := by
  cases m
  · exact PySem.F.slot_list_append
  · exact PySem.F.slot_list_extend
  · exact PySem.F.slot_list_pop
  · exact PySem.F.slot_list_pop
  · exact PySem.F.slot_list_insert
  · exact PySem.F.slot_str_join
  · exact PySem.F.slot_str_split
  · exact PySem.F.slot_str_zfill
theorem me_type (m : Me) : typeOf (.builtin (meF m)) = pure (.type "method_descriptor") := by
  cases m
  · exact PySem.F.type_list_append
  · exact PySem.F.type_list_extend
  · exact PySem.F.type_list_pop
  · exact PySem.F.type_list_pop
  · exact PySem.F.type_list_insert
  · exact PySem.F.type_str_join
  · exact PySem.F.type_str_split
  · exact PySem.F.type_str_zfill
theorem me_plain (m : Me) : PlainAttrs (meT m) := by
  cases m <;> first | exact PySem.F.plainAttrs_list | exact PySem.F.plainAttrs_str
end
section
variable {X : Cx} {a b c : Expr} {ma mb mc : Sg → Hm → Res Va} {pos : Pos}
/-! ### operators as expressions -/
theorem s_bin (o : Op) (ha : PE X a (tX X.K X.mg ma)) (hb : PE X b (tX X.K X.mg mb)) : PE X (.BinOp a (opM o) b pos) (tX X.K X.mg fun σ h => (ma σ h).bind fun x h1 => (mb σ h1).bind fun y h2 => binV o x y h2) :=
  imp_e (pe_op (op_bin o) ha hb) fun _ _ _ q => two q
theorem s_cmp (c : Cal X) (o : Cp) (ha : PE X a (tX X.K X.mg ma)) (hb : PE X b (tX X.K X.mg mb)) (hm : behindInMarks (cpM o) b = false) :
    PE X (.Compare a [cpM o] [b] pos) (tX X.K X.mg fun σ h => (ma σ h).bind fun x h1 => (mb σ h1).bind fun y h2 => ofB h2 (cmpP h2 o x y)) :=
  imp_e (pe_cmpR (op_cmp (by have := c.un; omega) o) ha hb hm) fun _ _ _ q => two (f := fun a b h => ofB h (cmpP h o a b)) q
theorem s_cmp2 (c : Cal X) (o p : Cp) {e : Expr} (hm : lastMarks [cpM o, cpM p] [b, e] = false) (ha : PE X a (tX X.K X.mg ma)) (hb : PE X b (tX X.K X.mg mb)) (hc : PE X e (tX X.K X.mg mc)) :
    PE X (.Compare a [cpM o, cpM p] [b, e] pos) (tX X.K X.mg fun σ h => (ma σ h).bind fun x h1 => (mb σ h1).bind fun y h2 => match cmpP h2 o x y with
      | some true => (mc σ h2).bind fun z h3 => ofB h3 (cmpP h3 p y z)
      | some false => .ok (.bl false) h2
      | none => .bad) := by
  have hu : X.A.units + 65 < cLine := by have := c.un; omega
  refine imp_e (pe_chain (op_cmp hu o) (op_cmp hu p) ha hb hc (hm := hm)) fun σ H Q q => ?_
  obtain ⟨ρ, σw, h, w, h', rs, rh, e, q⟩ := q
  obtain ⟨x, h1, e1, e⟩ := bind_eq_ok e
  obtain ⟨y, h2, e2, e⟩ := bind_eq_ok e
  refine ⟨ρ, σw, h, x, h1, rs, rh, e1, fun ρ1 H1 v1 f1 rh1 rv1 => ⟨ρ1, σw, h1, y, h2, rs.fut f1, rh1, e2, fun ρ2 H2 v2 f2 rh2 rv2 => ?_⟩⟩
  split at e
  · rename_i g
    refine ⟨ρ2, h2, x, y, .bl true, h2, rh2, rv1.fut f2, rv2, by show ofB h2 (cmpP h2 o x y) = _; rw [g]; rfl, fun ρ3 H3 v3 f3 rh3 rv3 => ?_⟩
    cases rv3
    refine ⟨true, rfl, ?_⟩
    obtain ⟨z, h3, e3, e⟩ := bind_eq_ok e
    have f03 := f1.trans (f2.trans f3)
    refine ⟨ρ3, σw, h2, z, h3, rs.fut f03, rh3, e3, fun ρ4 H4 v4 f4 rh4 rv4 => ⟨ρ4, h3, y, z, w, h', rh4, rv2.fut (f3.trans f4), rv4, e, fun ρ5 H5 v5 f5 rh5 rv5 => q ρ5 H5 v5 (f03.trans (f4.trans f5)) rh5 rv5⟩⟩
  · rename_i g
    cases e
    refine ⟨ρ2, h', x, y, .bl false, h', rh2, rv1.fut f2, rv2, by show ofB h' (cmpP h' o x y) = _; rw [g]; rfl, fun ρ3 H3 v3 f3 rh3 rv3 => ?_⟩
    cases rv3
    exact ⟨false, rfl, q ρ3 H3 _ (f1.trans (f2.trans f3)) rh3 (.bl false)⟩
  · cases e
theorem s_neg (ha : PE X a (tX X.K X.mg ma)) : PE X (.UnaryOp .USub a pos) (tX X.K X.mg fun σ h => (ma σ h).bind fun x h1 => match x with
    | .int i => .ok (.int (-i)) h1
    | _ => .bad) := by
  refine imp_e (pe_un (r := rV1 X.K X.mg fun x h1 => match x with
    | .int i => .ok (.int (-i)) h1
    | _ => .bad) (fun pins s σ H x v Q I rx q => ?_) ha) fun _ _ _ q => one q
  obtain ⟨ρ, h, a, w, h', rh, ra, e, q⟩ := q
  dsimp only at e
  split at e
  · cases e
    rw [rw_int ra] at rx
    exact un_neg pins s σ H _ v Q I rx ⟨_, rfl, q.now rh (.int _)⟩
  · cases e
theorem s_idx (ha : PE X a (tX X.K X.mg ma)) (hb : PE X b (tX X.K X.mg mb)) (hs : PlainIx b) : PE X (.Subscript a b pos) (tX X.K X.mg fun σ h => (ma σ h).bind fun x h1 => (mb σ h1).bind fun y h2 => idxV x y h2) :=
  imp_e (pe_ix ix_any ha hb hs) fun _ _ _ q => two q
theorem s_slc {lo hi : Option Expr} {p2 : Pos} {ml mu : Sg → Hm → Res (Option Int)} (ha : PE X a (tX X.K X.mg ma)) (hl : PO X lo (tOo X.K X.mg ml)) (hh : PO X hi (tOo X.K X.mg mu)) :
    PE X (.Subscript a (.Slice lo hi none p2) pos) (tX X.K X.mg fun σ h => (ma σ h).bind fun x h1 => (ml σ h1).bind fun l h2 => (mu σ h2).bind fun u h3 => slcV l u x h3) := by
  refine imp_e (pe_slice sl_any ha hl hh) fun σ H Q q => ?_
  obtain ⟨ρ, σw, h, w, h', rs, rh, e, q⟩ := q
  obtain ⟨x, h1, e1, e⟩ := bind_eq_ok e
  obtain ⟨l, h2, e2, e⟩ := bind_eq_ok e
  obtain ⟨u, h3, e3, e⟩ := bind_eq_ok e
  exact ⟨ρ, σw, h, x, h1, rs, rh, e1, fun ρ1 H1 v1 f1 rh1 rv1 => ⟨ρ1, σw, h1, l, h2, rs.fut f1, rh1, e2, fun ρ2 H2 f2 rh2 => ⟨ρ2, σw, h2, u, h3, rs.fut (f1.trans f2), rh2, e3, fun ρ3 H3 f3 rh3 =>
    ⟨ρ3, h3, x, w, h', rh3, rv1.fut (f2.trans f3), e, fun ρ4 H4 v4 f4 rh4 rv4 => q ρ4 H4 v4 (f1.trans (f2.trans (f3.trans f4))) rh4 rv4⟩⟩⟩⟩
theorem s_oNone : PO X none (tOo X.K X.mg fun _ h => .ok none h) := imp_o po_none fun σ H Q q => by
  obtain ⟨ρ, σw, h, w, h', rs, rh, e, q⟩ := q
  cases e
  exact q ρ H .refl rh
theorem s_oSome (ha : PE X a (tX X.K X.mg ma)) : PO X (some a) (tOo X.K X.mg fun σ h => (ma σ h).bind fun x h1 => match x with
    | .int i => .ok (some i) h1
    | _ => .bad) := imp_o (po_some ha) fun σ H Q q => by
  obtain ⟨ρ, σw, h, w, h', rs, rh, e, q⟩ := q
  obtain ⟨x, h1, e1, e⟩ := bind_eq_ok e
  refine ⟨ρ, σw, h, x, h1, rs, rh, e1, fun ρ1 H1 v1 f1 rh1 rv1 => ?_⟩
  split at e
  · cases e
    exact ⟨_, rw_int rv1, q ρ1 H1 f1 rh1⟩
  · cases e
/-! ### tests -/
theorem tB_of {m : Sg → Hm → Res Bool} {σ : L2.St} {H : Hp} {Q : Bool → Hp → Prop} (q : tB' X.K X.mg m σ H Q) : tB' X.K X.mg m σ H Q := q
/-- any expression's truth -/
theorem s_truth (ha : PE X a (tX X.K X.mg ma)) (he : ∀ whole, isTrue a X.env whole = (do let v ← whole; standAt a.pos; holding [v] (truthy v))) :
    PT X a (tB' X.K X.mg fun σ h => truR (ma σ h)) := imp_t (pt_truth ha he) fun σ H Q q => by
  obtain ⟨ρ, σw, h, b, h', rs, rh, e, q⟩ := q
  obtain ⟨x, h1, e1, e⟩ := bind_eq_ok e
  refine ⟨ρ, σw, h, x, h1, rs, rh, e1, fun ρ1 H1 v1 f1 rh1 rv1 => ?_⟩
  split at e
  · rename_i k hk
    cases e
    exact ⟨b, truth_ok rh1 rv1 hk, q ρ1 H1 f1 rh1⟩
  · cases e
/-- a comparison as a test -/
theorem s_tcmp {f : Va → Va → Hm → Res Va} {op : CmpOp} (ho : OpR X (compareOp op) (rV2 X.K X.mg f)) (hf : ∀ a b h w h', f a b h = .ok w h' → ∃ k, w = .bl k) (ha : PE X a (tX X.K X.mg ma)) (hb : PE X b (tX X.K X.mg mb)) (hm : behindInMarks op b = false) :
    PT X (.Compare a [op] [b] pos) (tB' X.K X.mg fun σ h => truR ((ma σ h).bind fun x h1 => (mb σ h1).bind fun y h2 => f x y h2)) := imp_t (pt_cmpR ho ha hb hm) fun σ H Q q => by
  obtain ⟨ρ, σw, h, k, h', rs, rh, e, q⟩ := q
  obtain ⟨z, h3, e0, e⟩ := bind_eq_ok e
  obtain ⟨x, h1, e1, e0⟩ := bind_eq_ok e0
  obtain ⟨y, h2, e2, e0⟩ := bind_eq_ok e0
  obtain ⟨k0, hk⟩ := hf _ _ _ _ _ e0
  subst hk
  refine ⟨ρ, σw, h, x, h1, rs, rh, e1, fun ρ1 H1 v1 f1 rh1 rv1 => ⟨ρ1, σw, h1, y, h2, rs.fut f1, rh1, e2, fun ρ2 H2 v2 f2 rh2 rv2 => ⟨ρ2, h2, x, y, _, h3, rh2, rv1.fut f2, rv2, e0, fun ρ3 H3 v3 f3 rh3 rv3 => ?_⟩⟩⟩
  cases rv3
  have e' : Res.ok k0 h3 = .ok k h' := e
  cases e'
  exact ⟨_, rfl, q ρ3 H3 (f1.trans (f2.trans f3)) rh3⟩
theorem s_tnot {m : Sg → Hm → Res Bool} (ha : PT X a (tB' X.K X.mg m)) : PT X (.UnaryOp .Not a pos) (tB' X.K X.mg fun σ h => truR ((m σ h).bind fun b h1 => .ok (.bl (!b)) h1)) := imp_t (pt_not ha) fun σ H Q q => by
  obtain ⟨ρ, σw, h, k, h', rs, rh, e, q⟩ := q
  obtain ⟨z, h3, e0, e⟩ := bind_eq_ok e
  obtain ⟨b, h1, e1, e0⟩ := bind_eq_ok e0
  cases e0
  have e' : Res.ok (!b) h3 = .ok k h' := e
  obtain ⟨z1, z2⟩ : (!b) = k ∧ h3 = h' := by cases e'; exact ⟨rfl, rfl⟩
  subst z1 z2
  exact ⟨ρ, σw, h, b, h3, rs, rh, e1, fun ρ1 H1 f1 rh1 => q ρ1 H1 f1 rh1⟩
theorem s_not (ha : PE X a (tX X.K X.mg ma)) : PE X (.UnaryOp .Not a pos) (tX X.K X.mg fun σ h => (truR (ma σ h)).bind fun b h1 => .ok (.bl (!b)) h1) := imp_e (pe_notT ha) fun σ H Q q => by
  obtain ⟨ρ, σw, h, w, h', rs, rh, e, q⟩ := q
  obtain ⟨b, h1, e1, e⟩ := bind_eq_ok e
  cases e
  obtain ⟨x, h2, e2, e1⟩ := bind_eq_ok e1
  refine ⟨ρ, σw, h, x, h2, rs, rh, e2, fun ρ1 H1 v1 f1 rh1 rv1 => ?_⟩
  split at e1
  · rename_i k hk
    cases e1
    exact ⟨b, truth_ok rh1 rv1 hk, q ρ1 H1 _ f1 rh1 (.bl _)⟩
  · cases e1
/-- x and y, x or y as tests -/
def andR (m n : Sg → Hm → Res Va) : Sg → Hm → Res Va := fun σ h => (m σ h).bind fun x h1 => match truth h1 x with
  | some true => n σ h1
  | some false => .ok x h1
  | none => .bad
def orR (m n : Sg → Hm → Res Va) : Sg → Hm → Res Va := fun σ h => (m σ h).bind fun x h1 => match truth h1 x with
  | some true => .ok x h1
  | some false => n σ h1
  | none => .bad
theorem truR_ok {r : Res Va} {b : Bool} {h' : Hm} (e : truR r = .ok b h') : ∃ x, r = .ok x h' ∧ truth h' x = some b := by
  obtain ⟨x, h1, e1, e⟩ := bind_eq_ok e
  split at e
  · rename_i k hk
    cases e
    exact ⟨x, e1, hk⟩
  · cases e
theorem truR_eq {r : Res Va} {x : Va} {b : Bool} {h' : Hm} (e : r = .ok x h') (e2 : truth h' x = some b) : truR r = .ok b h' := by
  rw [e]
  show (match truth h' x with | some b => Res.ok b h' | none => .bad) = _
  rw [e2]
variable {rest : List Expr} {p1 p2 : Pos}
theorem s_wand (ha : PT X a (tB' X.K X.mg fun σ h => truR (ma σ h))) (hb : PW X (.BoolOp .And (b :: rest) pos) (tB' X.K X.mg fun σ h => truR (mb σ h))) :
    PW X (.BoolOp .And (a :: b :: rest) pos) (tB' X.K X.mg fun σ h => truR (andR ma mb σ h)) := imp_w (pw_and ha hb) fun σ H Q q => by
  obtain ⟨ρ, σw, h, k, h', rs, rh, e, q⟩ := q
  obtain ⟨z, e0, e⟩ := truR_ok e
  obtain ⟨x, h1, e1, e0⟩ := bind_eq_ok e0
  split at e0
  · rename_i g
    refine ⟨ρ, σw, h, true, h1, rs, rh, truR_eq e1 g, fun ρ1 H1 f1 rh1 => ?_⟩
    exact ⟨ρ1, σw, h1, k, h', rs.fut f1, rh1, truR_eq e0 e, fun ρ2 H2 f2 rh2 => q ρ2 H2 (f1.trans f2) rh2⟩
  · rename_i g
    cases e0
    rw [g] at e
    cases e
    exact ⟨ρ, σw, h, false, h', rs, rh, truR_eq e1 g, fun ρ1 H1 f1 rh1 => q ρ1 H1 f1 rh1⟩
  · cases e0
theorem s_wor (ha : PT X a (tB' X.K X.mg fun σ h => truR (ma σ h))) (hb : PW X (.BoolOp .Or (b :: rest) pos) (tB' X.K X.mg fun σ h => truR (mb σ h))) :
    PW X (.BoolOp .Or (a :: b :: rest) pos) (tB' X.K X.mg fun σ h => truR (orR ma mb σ h)) := imp_w (pw_or ha hb) fun σ H Q q => by
  obtain ⟨ρ, σw, h, k, h', rs, rh, e, q⟩ := q
  obtain ⟨z, e0, e⟩ := truR_ok e
  obtain ⟨x, h1, e1, e0⟩ := bind_eq_ok e0
  split at e0
  · rename_i g
    cases e0
    rw [g] at e
    cases e
    exact ⟨ρ, σw, h, true, h', rs, rh, truR_eq e1 g, fun ρ1 H1 f1 rh1 => q ρ1 H1 f1 rh1⟩
  · rename_i g
    refine ⟨ρ, σw, h, false, h1, rs, rh, truR_eq e1 g, fun ρ1 H1 f1 rh1 => ?_⟩
    exact ⟨ρ1, σw, h1, k, h', rs.fut f1, rh1, truR_eq e0 e, fun ρ2 H2 f2 rh2 => q ρ2 H2 (f1.trans f2) rh2⟩
  · cases e0
theorem s_and (ha : PE X a (tX X.K X.mg ma)) (hb : PE X (.BoolOp .And (b :: rest) pos) (tX X.K X.mg mb)) : PE X (.BoolOp .And (a :: b :: rest) pos) (tX X.K X.mg (andR ma mb)) := imp_e (pe_andT ha hb) fun σ H Q q => by
  obtain ⟨ρ, σw, h, w, h', rs, rh, e0, q⟩ := q
  obtain ⟨x, h1, e1, e0⟩ := bind_eq_ok e0
  refine ⟨ρ, σw, h, x, h1, rs, rh, e1, fun ρ1 H1 v1 f1 rh1 rv1 => ?_⟩
  split at e0
  · rename_i g
    refine ⟨true, truth_ok rh1 rv1 g, ?_⟩
    rw [if_pos rfl]
    exact ⟨ρ1, σw, h1, w, h', rs.fut f1, rh1, e0, fun ρ2 H2 v2 f2 rh2 rv2 => q ρ2 H2 v2 (f1.trans f2) rh2 rv2⟩
  · rename_i g
    cases e0
    exact ⟨false, truth_ok rh1 rv1 g, q ρ1 H1 v1 f1 rh1 rv1⟩
  · cases e0
theorem s_or (ha : PE X a (tX X.K X.mg ma)) (hb : PE X (.BoolOp .Or (b :: rest) pos) (tX X.K X.mg mb)) : PE X (.BoolOp .Or (a :: b :: rest) pos) (tX X.K X.mg (orR ma mb)) := imp_e (pe_orT ha hb) fun σ H Q q => by
  obtain ⟨ρ, σw, h, w, h', rs, rh, e0, q⟩ := q
  obtain ⟨x, h1, e1, e0⟩ := bind_eq_ok e0
  refine ⟨ρ, σw, h, x, h1, rs, rh, e1, fun ρ1 H1 v1 f1 rh1 rv1 => ?_⟩
  split at e0
  · rename_i g
    cases e0
    exact ⟨true, truth_ok rh1 rv1 g, q ρ1 H1 v1 f1 rh1 rv1⟩
  · rename_i g
    refine ⟨false, truth_ok rh1 rv1 g, ?_⟩
    rw [if_neg Bool.false_ne_true]
    exact ⟨ρ1, σw, h1, w, h', rs.fut f1, rh1, e0, fun ρ2 H2 v2 f2 rh2 rv2 => q ρ2 H2 v2 (f1.trans f2) rh2 rv2⟩
  · cases e0
theorem s_ife {mt : Sg → Hm → Res Bool} {t : Expr} (ht : PT X t (tB' X.K X.mg mt)) (ha : PE X a (tX X.K X.mg ma)) (hb : PE X b (tX X.K X.mg mb)) :
    PE X (.IfExp t a b pos) (tX X.K X.mg fun σ h => (mt σ h).bind fun k h1 => if k = true then ma σ h1 else mb σ h1) := imp_e (pe_ifExp ht ha hb) fun σ H Q q => by
  obtain ⟨ρ, σw, h, w, h', rs, rh, e0, q⟩ := q
  obtain ⟨k, h1, e1, e0⟩ := bind_eq_ok e0
  refine ⟨ρ, σw, h, k, h1, rs, rh, e1, fun ρ1 H1 f1 rh1 => ?_⟩
  cases k with
  | true => exact ⟨ρ1, σw, h1, w, h', rs.fut f1, rh1, e0, fun ρ2 H2 v2 f2 rh2 rv2 => q ρ2 H2 v2 (f1.trans f2) rh2 rv2⟩
  | false => exact ⟨ρ1, σw, h1, w, h', rs.fut f1, rh1, e0, fun ρ2 H2 v2 f2 rh2 rv2 => q ρ2 H2 v2 (f1.trans f2) rh2 rv2⟩
theorem pt_ifExp {c u w : Expr} {tc tu tw : TT} (hc : PT X c tc) (ha : PT X u tu) (hb : PT X w tw) : PT X (.IfExp c u w pos) (fun σ H Q => tc σ H fun d H1 => if d = true then tu σ H1 Q else tw σ H1 Q) := by
  refine ⟨fun pins s σ H Q I h => ?_⟩
  refine isTrue_IfExp (thn (hc.run pins s σ H _ I h) fun d s1 ⟨H1, I1, q1⟩ => ?_)
  cases d with
  | true => exact ha.run pins s1 σ H1 Q I1 q1
  | false => exact hb.run pins s1 σ H1 Q I1 q1
theorem s_tife {mt : Sg → Hm → Res Bool} {t : Expr} (ht : PT X t (tB' X.K X.mg mt)) (ha : PT X a (tB' X.K X.mg fun σ h => truR (ma σ h))) (hb : PT X b (tB' X.K X.mg fun σ h => truR (mb σ h))) :
    PT X (.IfExp t a b pos) (tB' X.K X.mg fun σ h => truR ((mt σ h).bind fun k h1 => if k = true then ma σ h1 else mb σ h1)) := imp_t (pt_ifExp ht ha hb) fun σ H Q q => by
  obtain ⟨ρ, σw, h, w, h', rs, rh, e0, q⟩ := q
  obtain ⟨z, e1, e2⟩ := truR_ok e0
  obtain ⟨k, h1, e3, e4⟩ := bind_eq_ok e1
  refine ⟨ρ, σw, h, k, h1, rs, rh, e3, fun ρ1 H1 f1 rh1 => ?_⟩
  cases k with
  | true => exact ⟨ρ1, σw, h1, w, h', rs.fut f1, rh1, truR_eq e4 e2, fun ρ2 H2 f2 rh2 => q ρ2 H2 (f1.trans f2) rh2⟩
  | false => exact ⟨ρ1, σw, h1, w, h', rs.fut f1, rh1, truR_eq e4 e2, fun ρ2 H2 f2 rh2 => q ρ2 H2 (f1.trans f2) rh2⟩
/-! ### arguments, displays -/
theorem s_nil : PA X [] (tXs X.K X.mg fun _ h => .ok [] h) := imp_a pa_nil fun σ H Q q => by
  obtain ⟨ρ, σw, h, ws, h', rs, rh, e, q⟩ := q
  cases e
  exact q ρ H [] .refl rh .nil
variable {es : List Expr} {ms : Sg → Hm → Res (List Va)}
theorem s_cons (ha : PE X a (tX X.K X.mg ma)) (hr : PA X es (tXs X.K X.mg ms)) (hs : starEach (a :: es) X.env = (false, eval a X.env) :: starEach es X.env) :
    PA X (a :: es) (tXs X.K X.mg fun σ h => (ma σ h).bind fun x h1 => (ms σ h1).bind fun xs h2 => .ok (x :: xs) h2) := imp_a (pa_cons ha hr hs) fun σ H Q q => by
  obtain ⟨ρ, σw, h, ws, h', rs, rh, e, q⟩ := q
  obtain ⟨x, h1, e1, e⟩ := bind_eq_ok e
  obtain ⟨xs, h2, e2, e⟩ := bind_eq_ok e
  cases e
  exact ⟨ρ, σw, h, x, h1, rs, rh, e1, fun ρ1 H1 v1 f1 rh1 rv1 => ⟨ρ1, σw, h1, xs, h', rs.fut f1, rh1, e2, fun ρ2 H2 vs f2 rh2 rvs => q ρ2 H2 _ (f1.trans f2) rh2 (.cons (rv1.fut f2) rvs)⟩⟩
theorem s_star {p : Pos} (ha : PE X a (tX X.K X.mg ma)) (hr : PA X es (tXs X.K X.mg ms)) :
    PA X (.Starred a p :: es) (tXs X.K X.mg fun σ h => (ma σ h).bind fun x h1 => match itemsV h1 x with
      | some ws => (ms σ h1).bind fun xs h2 => .ok (ws ++ xs) h2
      | none => .bad) := imp_a (StX.pa_star ha hr) fun σ H Q q => by
  obtain ⟨ρ, σw, h, ws, h', rs, rh, e, q⟩ := q
  obtain ⟨x, h1, e1, e⟩ := bind_eq_ok e
  refine ⟨ρ, σw, h, x, h1, rs, rh, e1, fun ρ1 H1 v1 f1 rh1 rv1 => ?_⟩
  split at e
  · rename_i l hl
    obtain ⟨xs, h2, e2, e⟩ := bind_eq_ok e
    cases e
    obtain ⟨p, vs, rfl, s1, r1⟩ := rh1.items rv1 hl
    exact ⟨p, vs, rfl, s1.symm, ⟨ρ1, σw, h1, xs, h', rs.fut f1, rh1, e2, fun ρ2 H2 us f2 rh2 rvs => q ρ2 H2 _ (f1.trans f2) rh2 ((r1.fut f2).app rvs)⟩⟩
  · cases e
theorem s_tup {x1} (h : PA X es (tXs X.K X.mg ms)) : PE X (.Tuple es x1 pos) (tX X.K X.mg fun σ h => (ms σ h).bind fun ws h1 => if ws.length ≤ sizeLine then .ok (.tup ws) h1 else .bad) := imp_e (pe_tup h) fun σ H Q q => by
  obtain ⟨ρ, σw, h, w, h', rs, rh, e, q⟩ := q
  obtain ⟨ws, h1, e1, e⟩ := bind_eq_ok e
  split at e
  · rename_i hl
    cases e
    refine ⟨ρ, σw, h, ws, h', rs, rh, e1, fun ρ1 H1 vs f1 rh1 rvs => ⟨by rw [← rvs.len]; exact hl, fun p hp => ?_⟩⟩
    exact QV.tup (fun ρ2 H2 v2 f2 rh2 rv2 => q ρ2 H2 v2 (f1.trans f2) rh2 rv2) rh1 rvs hp
  · cases e
theorem s_dnew : PE X (.Dict [] [] pos) (tX X.K X.mg fun _ h => .ok (.ref h.length) (h ++ [.kd []])) := imp_e pe_dnewT fun σ H Q q => by
  obtain ⟨ρ, σw, h, w, h', rs, rh, e, q⟩ := q
  cases e
  intro p hp
  let z := rh.new (o := .dT (kdE [])) (c := .kd []) hp fun H' e f => e
  exact q _ _ _ z.1 z.2.1 (.ref z.2.2)
theorem s_lst (h : PA X es (tXs X.K X.mg ms)) : PE X (.List es pos) (tX X.K X.mg fun σ h => (ms σ h).bind fun ws h1 => newL h1 ws) := imp_e (pe_lst h) fun σ H Q q => by
  obtain ⟨ρ, σw, h, w, h', rs, rh, e, q⟩ := q
  obtain ⟨ws, h1, e1, e⟩ := bind_eq_ok e
  obtain ⟨hl, rfl, rfl⟩ := newL_ok e
  refine ⟨ρ, σw, h, ws, h1, rs, rh, e1, fun ρ1 H1 vs f1 rh1 rvs => ⟨by rw [← rvs.len]; exact hl, fun p hp => ?_⟩⟩
  exact QV.lst (fun ρ2 H2 v2 f2 rh2 rv2 => q ρ2 H2 v2 (f1.trans f2) rh2 rv2) rh1 rvs hp
theorem s_rev {p1 p2 p3 : Pos} {k : Nat} (ha : PE X a (tX X.K X.mg ma)) : PE X (.Subscript a (.Slice none none (some (.UnaryOp .USub (.Constant (.int 1) k p1) p2)) p3) pos) (tX X.K X.mg fun σ h => (ma σ h).bind fun x h1 => match x with
    | .ref n => (match seqAt h1 n with
      | some ws => newL h1 ws.reverse
      | none => .bad)
    | _ => .bad) := imp_e (pe_revL ha) fun σ H Q q => by
  obtain ⟨ρ, σw, h, w, h', rs, rh, e, q⟩ := q
  obtain ⟨x, h1, e1, e⟩ := bind_eq_ok e
  refine ⟨ρ, σw, h, x, h1, rs, rh, e1, fun ρ1 H1 v1 f1 rh1 rv1 => ?_⟩
  split at e
  · split at e
    · rename_i ws hw
      obtain ⟨hl, rfl, rfl⟩ := newL_ok e
      obtain ⟨p, rfl, ea⟩ := rw_ref rv1
      obtain ⟨vs, s1, r1⟩ := rh1.seq hw ea
      exact ⟨p, vs, rfl, s1, fun p hp => QV.lst (fun ρ2 H2 v2 f2 rh2 rv2 => q ρ2 H2 v2 (f1.trans f2) rh2 rv2) rh1 r1.reverse hp⟩
    · cases e
  · cases e
/-! ### calls of what is built in -/
theorem s_bi {x : Str} {p : Pos} (c : Cal X) (f : Bi) (hf : f.plain = true) (hg : Gl X x) (hm : X.mg x = none) (hv : bootBuiltins x = some (biF f)) (ha : PA X (a :: es) (tXs X.K X.mg ms)) (hn : x ≠ "__name__") (hdb : (x == ("__debug__" : Str)) = false)
    (he : starEach (a :: es) X.env = (false, eval a X.env) :: starEach es X.env) (hpl : (backTo pos (starEach es X.env)).any (·.1) = false) :
    PE X (.Call (.Name x p) (a :: es) [] pos) (tX X.K X.mg fun σ h => (ms σ h).bind fun ws h1 => biV f ws h1) := by
  have z : (∃ id, biF f = .builtin id) ∨ ∃ T, biF f = .type T := by cases f <;> first | exact .inl ⟨_, rfl⟩ | exact .inr ⟨_, rfl⟩
  have cr := cr_bi c f hf
  rcases z with ⟨id, z⟩ | ⟨T, z⟩
  · rw [z] at hv cr
    exact imp_e (pe_callB cr hg hm hv ha hn hdb he hpl) fun _ _ _ q => args q
  · rw [z] at hv cr
    exact imp_e (pe_callTy cr hg hm hv ha hn hdb he hpl) fun _ _ _ q => args q
end
end Vy
set_option maxHeartbeats 1000000
/-! what is walked; targets; comprehensions; statements -/
namespace Vy
open PySem PySem.Spec PyProof.Rows L2
section
variable (K : PySem.W.Frag) (mg : Str → Option Value)
/-- an iterator of the layer gives the items, as long as the lists that it holds stand -/
def Wks (J : It) (S : Src) (ρ0 : List Addr) (H0 : Hp) : Prop := ∀ ρ H h i, Fut K ρ0 H0 ρ H → RH K mg ρ H h → heldOk S.held h →
  (∀ w, S.items[i]? = some w → J.go i H ∧ ∀ x H', J.yld i H x H' → Fut K ρ H ρ H' ∧ RH K mg ρ H' h ∧ RW K mg ρ H' w x) ∧ (i = S.items.length → J.stop i H)
def tI (m : Sg → Hm → Res Src) : TI := fun σ H R => ∃ ρ σw h S h', RS K mg ρ H σw σ ∧ RH K mg ρ H h ∧ m σw h = .ok S h' ∧ ∀ ρ' H' J, Fut K ρ H ρ' H' → RH K mg ρ' H' h' → Wks K mg J S ρ' H' → R J H'
end
section
variable {X : Cx} {tg e : Expr} {pos : Pos}
theorem imp_i {t t' : TI} (h : PI X tg e t) (f : ∀ σ H R, t' σ H R → t σ H R) : PI X tg e t' := ⟨fun pins s σ H R I q => h.run pins s σ H R I (f σ H R q)⟩
theorem or_i {t t' : TI} (h : PI X tg e t) (h' : PI X tg e t') : PI X tg e (fun σ H R => t σ H R ∨ t' σ H R) := ⟨fun pins s σ H R I q => q.elim (h.run pins s σ H R I) (h'.run pins s σ H R I)⟩
variable {K : PySem.W.Frag} {mg : Str → Option Value}
/-- a source that reads a tuple -/
theorem wks_tup {ρ0 : List Addr} {H0 : Hp} {a : Addr} {vs : List V} {ws : List Va} (s : SqT K H0 a vs) (r : RWs K mg ρ0 H0 ws vs) : Wks K mg (Itt K a) ⟨ws, []⟩ ρ0 H0 := fun ρ H h i f rh _ => by
  have s' := f.tup a vs s
  refine ⟨fun w hw => ?_, fun hl => ⟨vs, s', by rw [← r.len]; exact Nat.le_of_eq hl.symm⟩⟩
  obtain ⟨v, hv, rv⟩ := r.get hw
  refine ⟨⟨vs, v, s', hv⟩, fun x H' y => ?_⟩
  obtain ⟨rfl, y⟩ := y
  have e := y vs s'
  rw [hv] at e
  cases e
  exact ⟨.refl, rh, rv.fut f⟩
theorem wks_lst {ρ0 : List Addr} {H0 : Hp} {n : Nat} {a : Addr} {c : Ce} {ws : List Va} (ea : ρ0[n]? = some a) (hc : c = .lst ws ∨ c = .frz ws) : Wks K mg (Itl K a) ⟨ws, [(n, c)]⟩ ρ0 H0 := fun ρ H h i f rh g => by
  have hn : h[n]? = some c := g (n, c) List.mem_cons_self
  obtain ⟨vs, s, r⟩ : ∃ vs, SqL K H a vs ∧ RWs K mg ρ H ws vs := by
    refine rh.seq (n := n) ?_ (f.at_ ea)
    unfold seqAt
    rw [hn]
    rcases hc with rfl | rfl <;> rfl
  refine ⟨fun w hw => ?_, fun hl => ⟨vs, s, by rw [← r.len]; exact Nat.le_of_eq hl.symm⟩⟩
  obtain ⟨v, hv, rv⟩ := r.get hw
  refine ⟨⟨vs, v, s, hv⟩, fun x H' y => ?_⟩
  obtain ⟨rfl, y⟩ := y
  have e := y vs s
  rw [hv] at e
  cases e
  exact ⟨.refl, rh, rv⟩
theorem wks_str {ρ0 : List Addr} {H0 : Hp} {x : Str} : Wks K mg (Its x) ⟨x.cps.toList.map fun c => .str ⟨#[c]⟩, []⟩ ρ0 H0 := fun ρ H h i f rh _ => by
  refine ⟨fun w hw => ?_, fun hl => (show _ ≤ i by simpa using Nat.le_of_eq hl.symm)⟩
  rw [List.getElem?_map] at hw
  obtain ⟨c, e1, e2⟩ := Option.map_eq_some_iff.mp hw
  have e1' : x.cps[i]? = some c := by rw [← e1, Array.getElem?_toList]
  refine ⟨(Array.getElem?_eq_some_iff.mp e1').1, fun y H' q => ?_⟩
  obtain ⟨rfl, c', e3, rfl⟩ := q
  rw [e1'] at e3
  cases e3
  rw [← e2]
  exact ⟨.refl, rh, .str _⟩
theorem wks_range {ρ0 : List Addr} {H0 : Hp} {lo : Int} {n : Nat} {items : List Va} (hi : items = (List.range n).map fun (k : Nat) => Va.int (lo + (k : Int))) : Wks K mg (Itr lo n) ⟨items, []⟩ ρ0 H0 := fun ρ H h i f rh _ => by
  subst hi
  refine ⟨fun w hw => ?_, fun hl => (show _ ≤ i by simpa using Nat.le_of_eq hl.symm)⟩
  rw [List.getElem?_map] at hw
  obtain ⟨c, e1, e2⟩ := Option.map_eq_some_iff.mp hw
  obtain ⟨l, e3⟩ := List.getElem?_eq_some_iff.mp e1
  rw [List.getElem_range] at e3
  rw [List.length_range] at l
  refine ⟨l, fun y H' q => ?_⟩
  obtain ⟨rfl, rfl⟩ := q
  rw [← e2, ← e3]
  exact ⟨.refl, rh, .int _⟩
theorem wks_rangeC {ρ0 : List Addr} {H0 : Hp} {lo c : Int} {n : Nat} {items : List Va} (hi : items = (List.range n).map fun (k : Nat) => Va.int (lo + (k : Int) * c)) : Wks K mg (Itc lo c n) ⟨items, []⟩ ρ0 H0 := fun ρ H h i f rh _ => by
  subst hi
  refine ⟨fun w hw => ?_, fun hl => (show _ ≤ i by simpa using Nat.le_of_eq hl.symm)⟩
  rw [List.getElem?_map] at hw
  obtain ⟨d, e1, e2⟩ := Option.map_eq_some_iff.mp hw
  obtain ⟨l, e3⟩ := List.getElem?_eq_some_iff.mp e1
  rw [List.getElem_range] at e3
  rw [List.length_range] at l
  refine ⟨l, fun y H' q => ?_⟩
  obtain ⟨rfl, rfl⟩ := q
  rw [← e2, ← e3]
  exact ⟨.refl, rh, .int _⟩
theorem zipL_get : ∀ (xs ys : List Va) (i : Nat) (w : Va), (zipL xs ys)[i]? = some w → ∃ x y, xs[i]? = some x ∧ ys[i]? = some y ∧ w = .tup [x, y]
  | [], _, _, _, e => by simp [zipL] at e
  | _ :: _, [], _, _, e => by simp [zipL] at e
  | a :: r, b :: s, 0, w, e => by
    have e' : Va.tup [a, b] = w := by simpa [zipL] using e
    exact ⟨a, b, rfl, rfl, e'.symm⟩
  | a :: r, b :: s, i + 1, w, e => by
    obtain ⟨x, y, e1, e2, e3⟩ := zipL_get r s i w (by simpa [zipL] using e)
    exact ⟨x, y, by simpa using e1, by simpa using e2, e3⟩
theorem zipL_len : ∀ (xs ys : List Va), (zipL xs ys).length = min xs.length ys.length
  | [], ys => by cases ys <;> simp [zipL]
  | a :: r, [] => by simp [zipL]
  | a :: r, b :: s => by simp [zipL, zipL_len r s, Nat.succ_min_succ]
theorem zip3L_get : ∀ (xs ys zs : List Va) (i : Nat) (w : Va), (zip3L xs ys zs)[i]? = some w → ∃ x y z, xs[i]? = some x ∧ ys[i]? = some y ∧ zs[i]? = some z ∧ w = .tup [x, y, z]
  | [], _, _, _, _, e => by simp [zip3L] at e
  | _ :: _, [], _, _, _, e => by simp [zip3L] at e
  | _ :: _, _ :: _, [], _, _, e => by simp [zip3L] at e
  | a :: r, b :: s, c :: t, 0, w, e => by
    have e' : Va.tup [a, b, c] = w := by simpa [zip3L] using e
    exact ⟨a, b, c, rfl, rfl, rfl, e'.symm⟩
  | a :: r, b :: s, c :: t, i + 1, w, e => by
    obtain ⟨x, y, z, e1, e2, e3, e4⟩ := zip3L_get r s t i w (by simpa [zip3L] using e)
    exact ⟨x, y, z, by simpa using e1, by simpa using e2, by simpa using e3, e4⟩
theorem enumL_get : ∀ (xs : List Va) (k i : Nat) (w : Va), (enumL k xs)[i]? = some w → ∃ x, xs[i]? = some x ∧ w = .tup [.int ((k + i : Nat) : Int), x]
  | [], _, _, _, e => by simp [enumL] at e
  | a :: r, k, 0, w, e => by
    have e' : Va.tup [.int (k : Int), a] = w := by simpa [enumL] using e
    exact ⟨a, rfl, e'.symm⟩
  | a :: r, k, i + 1, w, e => by
    obtain ⟨x, e1, e2⟩ := enumL_get r (k + 1) i w (by simpa [enumL] using e)
    exact ⟨x, by simpa using e1, by rw [e2, show k + 1 + i = k + (i + 1) by omega]⟩
theorem enumL_len : ∀ (xs : List Va) (k : Nat), (enumL k xs).length = xs.length
  | [], _ => rfl
  | a :: r, k => by simp [enumL, enumL_len r (k + 1)]
/-- a list of a place that is held -/
theorem held_seq {ρ0 ρ : List Addr} {H0 H : Hp} {h : Hm} {n : Nat} {a : Addr} {c : Ce} {ws : List Va} (ea : ρ0[n]? = some a) (hc : c = .lst ws ∨ c = .frz ws) (f : Fut K ρ0 H0 ρ H) (rh : RH K mg ρ H h) (hn : h[n]? = some c) : ∃ vs, SqL K H a vs ∧ RWs K mg ρ H ws vs := by
  refine rh.seq (n := n) ?_ (f.at_ ea)
  unfold seqAt
  rw [hn]
  rcases hc with rfl | rfl <;> rfl
/-- what a value is as a source -/
theorem srcV_cases {h : Hm} {w : Va} {S : Src} (e : srcV h w = some S) : (∃ ws, w = .tup ws ∧ S = ⟨ws, []⟩) ∨ (∃ x, w = .str x ∧ S = ⟨x.cps.toList.map fun c => .str ⟨#[c]⟩, []⟩) ∨
    ∃ n ws c, w = .ref n ∧ (c = .lst ws ∨ c = .frz ws) ∧ h[n]? = some c ∧ S = ⟨ws, [(n, c)]⟩ := by
  unfold srcV at e
  split at e
  · cases e
    exact .inl ⟨_, rfl, rfl⟩
  · split at e
    · cases e
      exact .inr (.inl ⟨_, rfl, rfl⟩)
    · cases e
  · split at e
    · rename_i g
      cases e
      exact .inr (.inr ⟨_, _, _, rfl, .inl rfl, g, rfl⟩)
    · rename_i g
      cases e
      exact .inr (.inr ⟨_, _, _, rfl, .inr rfl, g, rfl⟩)
    · cases e
  · cases e
end
section
variable {X : Cx} {tg e : Expr} {pos : Pos} {m : Sg → Hm → Res Va} {ms : Sg → Hm → Res (List Va)}
/-- any list, tuple or text -/
theorem s_seq (he : PE X e (tX X.K X.mg m)) : PI X tg e (tI X.K X.mg fun σ h => (m σ h).bind fun x h1 => match srcV h1 x with
      | some s => .ok s h1
      | none => .bad) := by
  refine imp_i (or_i (pi_list he) (or_i (pi_tup he) (pi_str he))) fun σ H R q => ?_
  obtain ⟨ρ, σw, h, S, h', rs, rh, e0, q⟩ := q
  obtain ⟨x, h1, e1, e0⟩ := bind_eq_ok e0
  split at e0
  · rename_i s hs
    cases e0
    rcases srcV_cases hs with ⟨ws, rfl, rfl⟩ | ⟨x, rfl, rfl⟩ | ⟨n, ws, c, rfl, hc, hn, rfl⟩
    · refine .inr (.inl ⟨ρ, σw, h, _, h', rs, rh, e1, fun ρ1 H1 v1 f1 rh1 rv1 => ?_⟩)
      obtain ⟨a, vs, rfl, s1, r1⟩ := rw_tup rv1
      exact ⟨a, rfl, ⟨vs, s1⟩, q ρ1 H1 _ f1 rh1 (wks_tup s1 r1)⟩
    · refine .inr (.inr ⟨ρ, σw, h, _, h', rs, rh, e1, fun ρ1 H1 v1 f1 rh1 rv1 => ?_⟩)
      exact ⟨x, rw_str rv1, q ρ1 H1 _ f1 rh1 wks_str⟩
    · refine .inl ⟨ρ, σw, h, _, h', rs, rh, e1, fun ρ1 H1 v1 f1 rh1 rv1 => ?_⟩
      obtain ⟨a, rfl, ea⟩ := rw_ref rv1
      obtain ⟨vs, s1, r1⟩ := held_seq ea hc .refl rh1 hn
      exact ⟨a, rfl, ⟨vs, s1⟩, q ρ1 H1 _ f1 rh1 (wks_lst ea hc)⟩
  · cases e0
noncomputable def iterR (f : Wk) (ms : Sg → Hm → Res (List Va)) : Sg → Hm → Res Src := fun σ h => (ms σ h).bind fun ws h1 => (match iterV f ws h1 with
      | some s => .ok s h1
      | none => .bad)
theorem iterR_ok {f : Wk} {σ : Sg} {h h' : Hm} {S : Src} (e : iterR f ms σ h = .ok S h') : ∃ ws, ms σ h = .ok ws h' ∧ iterV f ws h' = some S := by
  obtain ⟨ws, h1, e1, e⟩ := bind_eq_ok e
  split at e
  · rename_i s hs
    cases e
    exact ⟨ws, e1, hs⟩
  · cases e
theorem s_range1 {a : Expr} {p : Pos} (hg : Gl X "range") (hm : X.mg "range" = none) (ha : PA X [a] (tXs X.K X.mg ms)) (hl : ∀ σ h ws h', ms σ h = .ok ws h' → ws.length = 1) (hs : starEach [a] X.env = [(false, eval a X.env)]) :
    PI X tg (.Call (.Name "range" p) [a] [] pos) (tI X.K X.mg (iterR .rng ms)) := imp_i (pi_range1 hg hm ha hs) fun σ H R q => by
  obtain ⟨ρ, σw, h, S, h', rs, rh, e0, q⟩ := q
  obtain ⟨ws, e1, e2⟩ := iterR_ok e0
  have l := hl _ _ _ _ e1
  obtain ⟨l0, e3, rfl⟩ := Option.map_eq_some_iff.mp (show (rngV ws).map (fun l => Src.mk l []) = some S from e2)
  unfold rngV at e3
  split at e3
  · split at e3
    · rename_i j ok
      cases e3
      refine ⟨ρ, σw, h, _, h', rs, rh, e1, fun ρ1 H1 vs f1 rh1 rvs => ?_⟩
      obtain ⟨v, rfl, rv⟩ := rws_1 rvs
      exact ⟨j, by rw [rw_int rv], ok.1, ok.2, q ρ1 H1 _ f1 rh1 (wks_range (by unfold rng1L; congr 1; funext k; rw [Int.zero_add]))⟩
    · cases e3
  · simp at l
  · simp at l
  · cases e3
theorem s_range2 {a b : Expr} {p : Pos} (hg : Gl X "range") (hm : X.mg "range" = none) (ha : PA X [a, b] (tXs X.K X.mg ms)) (hl : ∀ σ h ws h', ms σ h = .ok ws h' → ws.length = 2) (hs : starEach [a, b] X.env = [(false, eval a X.env), (false, eval b X.env)])
    (hs2 : starEach [b] X.env = [(false, eval b X.env)]) :
    PI X tg (.Call (.Name "range" p) [a, b] [] pos) (tI X.K X.mg (iterR .rng ms)) := imp_i (pi_range2 hg hm ha hs hs2) fun σ H R q => by
  obtain ⟨ρ, σw, h, S, h', rs, rh, e0, q⟩ := q
  obtain ⟨ws, e1, e2⟩ := iterR_ok e0
  have l := hl _ _ _ _ e1
  obtain ⟨l0, e3, rfl⟩ := Option.map_eq_some_iff.mp (show (rngV ws).map (fun l => Src.mk l []) = some S from e2)
  unfold rngV at e3
  split at e3
  · simp at l
  · split at e3
    · rename_i i j ok
      cases e3
      refine ⟨ρ, σw, h, _, h', rs, rh, e1, fun ρ1 H1 vs f1 rh1 rvs => ?_⟩
      obtain ⟨v, z, rfl, rv, rz⟩ := rws_2 rvs
      exact ⟨i, j, by rw [rw_int rv, rw_int rz], ⟨ok.1.1, ok.1.2, ok.2.1, ok.2.2⟩, q ρ1 H1 _ f1 rh1 (wks_range rfl)⟩
    · cases e3
  · simp at l
  · cases e3
end
end Vy
set_option maxHeartbeats 1000000
/-! targets, comprehensions -/
namespace Vy
open PySem PySem.Spec PyProof.Rows L2
mutual
def Tg.slots : Tg → List Nat
  | .nm i => [i]
  | .tup ts => Tg.slotss ts
def Tg.slotss : List Tg → List Nat
  | [] => []
  | t :: ts => t.slots ++ Tg.slotss ts
end
section
variable (K : PySem.W.Frag) (mg : Str → Option Value)
def tGo (t : Tg) : TG := fun v σ H Q => ∃ ρ σw w σw', RS K mg ρ H σw σ ∧ RW K mg ρ H w v ∧ setT t w σw = some σw' ∧ ∀ σ', RS K mg ρ H σw' σ' → (∀ j, j ∉ t.slots → σ'[j]? = σ[j]?) → Q σ' H
def tGs (ts : List Tg) : TGs := fun vs σ H Q => ∃ ρ σw ws σw', RS K mg ρ H σw σ ∧ RWs K mg ρ H ws vs ∧ setTs ts ws σw = some σw' ∧ ∀ σ', RS K mg ρ H σw' σ' → (∀ j, j ∉ Tg.slotss ts → σ'[j]? = σ[j]?) → Q σ' H
end
section
variable {K : PySem.W.Frag} {mg : Str → Option Value} {ρ ρ' : List Addr} {H H' : Hp} {h h' : Hm} {σw : Sg} {σ : L2.St}
theorem RS.set (r : RS K mg ρ H σw σ) {w : Va} {v : V} (q : RW K mg ρ H w v) (i : Nat) : RS K mg ρ H (σw.set i (some w)) (σ.set i (some v)) := by
  refine ⟨by simp [r.1], fun j u e => ?_⟩
  by_cases hj : i = j
  · subst hj
    by_cases hl : i < σw.length
    · rw [List.getElem?_set_self hl] at e
      cases e
      exact ⟨v, by rw [List.getElem?_set_self (by rw [← r.1]; exact hl)], q⟩
    · rw [List.getElem?_eq_none (by simpa using hl)] at e
      cases e
  · rw [List.getElem?_set_ne hj] at e
    obtain ⟨z, e1, q1⟩ := r.2 j u e
    exact ⟨z, by rw [List.getElem?_set_ne hj]; exact e1, q1⟩
theorem RS.drop1 (r : RS K mg ρ H σw σ) (i : Nat) : RS K mg ρ H (σw.set i none) (σ.set i none) := by
  refine ⟨by simp [r.1], fun j u e => ?_⟩
  by_cases hj : i = j
  · subst hj
    by_cases hl : i < σw.length
    · rw [List.getElem?_set_self hl] at e
      cases e
    · rw [List.getElem?_eq_none (by simpa using hl)] at e
      cases e
  · rw [List.getElem?_set_ne hj] at e
    obtain ⟨z, e1, q1⟩ := r.2 j u e
    exact ⟨z, by rw [List.getElem?_set_ne hj]; exact e1, q1⟩
theorem RS.wipe (r : RS K mg ρ H σw σ) : ∀ vs : List Nat, RS K mg ρ H (wipeS σw vs) (L2.wipe σ vs)
  | [] => r
  | v :: vs => (RS.wipe r vs).drop1 v
theorem wipe_at {σ : L2.St} {j : Nat} : ∀ {vs : List Nat}, (L2.wipe σ vs)[j]? = if j ∈ vs ∧ j < σ.length then some none else σ[j]?
  | [] => by simp [L2.wipe]
  | v :: vs => by
    show ((L2.wipe σ vs).set v none)[j]? = _
    by_cases hj : v = j
    · subst hj
      by_cases hl : v < σ.length
      · rw [List.getElem?_set_self (by rw [L2.wipe_length]; exact hl), if_pos ⟨List.mem_cons_self, hl⟩]
      · rw [if_neg (fun z => hl z.2), List.getElem?_eq_none (by simpa [L2.wipe_length] using hl), List.getElem?_eq_none (by omega)]
    · rw [List.getElem?_set_ne hj, wipe_at (vs := vs)]
      have : (j ∈ v :: vs) ↔ j ∈ vs := by simp [Ne.symm hj]
      simp only [this]
mutual
theorem setT_len : ∀ (t : Tg) (w : Va) (σ σ' : Sg), setT t w σ = some σ' → σ'.length = σ.length
  | .nm i, w, σ, σ', e => by
    have e' : some (σ.set i (some w)) = some σ' := e
    cases e'
    exact List.length_set
  | .tup ts, .tup ws, σ, σ', e => setTs_len ts ws σ σ' e
  | .tup ts, .non, σ, σ', e => by cases e
  | .tup ts, .bl _, σ, σ', e => by cases e
  | .tup ts, .int _, σ, σ', e => by cases e
  | .tup ts, .str _, σ, σ', e => by cases e
  | .tup ts, .ty _, σ, σ', e => by cases e
  | .tup ts, .glb _, σ, σ', e => by cases e
  | .tup ts, .ref _, σ, σ', e => by cases e
theorem setTs_len : ∀ (ts : List Tg) (ws : List Va) (σ σ' : Sg), setTs ts ws σ = some σ' → σ'.length = σ.length
  | [], [], σ, σ', e => by cases e; rfl
  | [], _ :: _, σ, σ', e => by cases e
  | _ :: _, [], σ, σ', e => by cases e
  | t :: ts, w :: ws, σ, σ', e => by
    have e1 : (match setT t w σ with
      | some σ1 => setTs ts ws σ1
      | none => none) = some σ' := e
    split at e1
    · rename_i σ1 g
      exact (setTs_len ts ws σ1 σ' e1).trans (setT_len t w σ σ1 g)
    · cases e1
end
/-- the slots of the block's own names are all that a turn's target may change -/
theorem wipe_same {σ2 σ : L2.St} {vs sl : List Nat} (hl : σ2.length = σ.length) (hs : ∀ j ∈ sl, j ∈ vs) (k : ∀ j, j ∉ sl → σ2[j]? = (L2.wipe σ vs)[j]?) : L2.wipe σ2 vs = L2.wipe σ vs := by
  refine List.ext_getElem? fun j => ?_
  rw [wipe_at, wipe_at, hl]
  split
  · rfl
  · rename_i c
    by_cases hj : j ∈ sl
    · have c' : ¬ j < σ.length := fun z => c ⟨hs j hj, z⟩
      rw [List.getElem?_eq_none (by omega), List.getElem?_eq_none (by omega)]
    · rw [k j hj, wipe_at, if_neg c]
end
section
variable {X : Cx} {pos : Pos}
theorem s_gname {i : Nat} {x : Str} (hN : X.N.Nodup) (hi : X.N[i]? = some x) (hx : Loc X.env.scope x) (hf : X.fn x = true ∨ X.env.scope.names.lookup x = some .local) : PG X (.Name x pos) (tGo X.K X.mg (.nm i)) := by
  refine ⟨fun pins s σ H v u Q I r q => ?_⟩
  obtain ⟨ρ, σw, w, σw', rs, rv, e, q⟩ := q
  have e' : some (σw.set i (some w)) = some σw' := e
  cases e'
  refine (pg_name (pos := pos) hN hi hx hf).run pins s σ H v u Q I r (q _ (rs.set rv i) fun j hj => ?_)
  have hne : i ≠ j := fun z => hj (by simp [Tg.slots, z])
  rw [List.getElem?_set_ne hne]
theorem s_gnil : PGs X [] (tGs X.K X.mg []) := by
  refine ⟨fun pins s σ H vs us Q I r q => ?_⟩
  obtain ⟨ρ, σw, ws, σw', rs, rv, e, q⟩ := q
  cases rv with
  | nil =>
    cases e
    exact pgs_nil.run pins s σ H [] us Q I r ⟨rfl, q σ rs fun _ _ => rfl⟩
  | cons _ _ => cases e
theorem s_gcons {e : Expr} {es : List Expr} {t : Tg} {ts : List Tg} (h1 : PG X e (tGo X.K X.mg t)) (h2 : PGs X es (tGs X.K X.mg ts))
    (hs : (assignEach (e :: es) X.env).map (·.2) = assign e X.env :: (assignEach es X.env).map (·.2)) : PGs X (e :: es) (tGs X.K X.mg (t :: ts)) := by
  refine ⟨fun pins s σ H vs us Q I r q => ?_⟩
  obtain ⟨ρ, σw, ws, σw', rs, rv, e0, q⟩ := q
  cases rv with
  | nil => cases e0
  | cons rv1 rvs =>
    rename_i w v ws vs
    have e1 : (match setT t w σw with
      | some σ1 => setTs ts ws σ1
      | none => none) = some σw' := e0
    split at e1
    · rename_i σ1 g
      refine (pgs_cons h1 h2 hs).run pins s σ H _ us Q I r ⟨v, vs, rfl, ρ, σw, w, σ1, rs, rv1, g, fun σ' rs' k1 => ⟨ρ, σ1, ws, σw', rs', rvs, e1, fun σ'' rs'' k2 => q σ'' rs'' fun j hj => ?_⟩⟩
      have hj' : j ∉ t.slots ∧ j ∉ Tg.slotss ts := by simpa [Tg.slotss] using hj
      rw [k2 j hj'.2, k1 j hj'.1]
    · cases e1
theorem s_gtup {es : List Expr} {k : Nat} {ts : List Tg} (hc : X.calm = true) (h : PGs X es (tGs X.K X.mg ts)) (hn : (assignEach es X.env).length = ts.length) (hst : (assignEach es X.env).findIdx? (·.1) = none) : PG X (.Tuple es k pos) (tGo X.K X.mg (.tup ts)) := by
  refine ⟨fun pins s σ H v u Q I r q => ?_⟩
  obtain ⟨ρ, σw, w, σw', rs, rv, e, q⟩ := q
  cases rv with
  | tup s1 r1 =>
    rename_i ws a vs
    have hl : ∀ (ts : List Tg) (ws : List Va) (σa σb : Sg), setTs ts ws σa = some σb → ws.length = ts.length := by
      intro ts
      induction ts with
      | nil =>
        intro ws σa σb e
        cases ws with
        | nil => rfl
        | cons _ _ => cases e
      | cons t ts ih =>
        intro ws σa σb e
        cases ws with
        | nil => cases e
        | cons w ws =>
          have e1 : (match setT t w σa with
            | some σ1 => setTs ts ws σ1
            | none => none) = some σb := e
          split at e1
          · exact congrArg (· + 1) (ih _ _ _ e1)
          · cases e1
    have e1 : setTs ts ws σw = some σw' := e
    exact (pg_tup (pos := pos) (k := k) hc h hn hst).run pins s σ H _ u Q I r ⟨a, vs, rfl, s1, by rw [← r1.len]; exact hl _ _ _ _ e1, ρ, σw, ws, σw', rs, r1, e1, fun σ' rs' k => q σ' rs' k⟩
  | _ => cases e
/-! ### [elt for t in it if ..] -/
/-- the evaluator's comprehension -/
noncomputable def lcR (own : List Nat) (t : Tg) (mi : Sg → Hm → Res Src) (mt : Sg → Hm → Res Bool) (me : Sg → Hm → Res Va) : Sg → Hm → Res Va := fun σ h => (mi σ h).bind fun s h1 =>
  (compL h1.length s.held t mt me (wipeS σ own) s.items (h1 ++ [.lst []])).bind fun _ h2 => .ok (.ref h1.length) h2
variable {elt tg iter : Expr} {ifs : List Expr} {scope : Scope} {own : List (Str × Nat)} {t : Tg} {mi : Sg → Hm → Res Src} {mt : Sg → Hm → Res Bool} {me : Sg → Hm → Res Va}
theorem lc_read (hsl : ∀ j ∈ t.slots, j ∈ own.map (·.2)) {σ : L2.St} {H : Hp} {Q : VK} (q : tX X.K X.mg (lcR (own.map (·.2)) t mi mt me) σ H Q) :
    tLc (tI X.K X.mg mi) (tGo X.K X.mg t) (tB' X.K X.mg mt) (tX X.K X.mg me) (own.map (·.2)) σ H Q := by
  obtain ⟨ρ, σw, h, w, h', rs, rh, e, q⟩ := q
  obtain ⟨S, h1, e1, e⟩ := bind_eq_ok e
  obtain ⟨_, h2, e2, e⟩ := bind_eq_ok e
  cases e
  refine ⟨ρ, σw, h, S, h1, rs, rh, e1, fun ρ1 H1 J f1 rh1 wk D hD => ?_⟩
  obtain ⟨f2, rh2, eD⟩ := rh1.new (o := .lst []) (c := .lst []) hD fun H' e f => ⟨[], e, .nil⟩
  -- the invariant
  refine ⟨fun i m Hc => m = S.items.length - i ∧ i ≤ S.items.length ∧ ∃ ρc hc, Fut X.K (ρ1 ++ [D]) (upd H1 D (.lst [])) ρc Hc ∧ RH X.K X.mg ρc Hc hc ∧
    compL h1.length S.held t mt me (wipeS σw (own.map (·.2))) (S.items.drop i) hc = .ok () h', ⟨S.items.length, rfl, Nat.zero_le _, _, _, .refl, rh2, e2⟩, ?_⟩
  rintro i m Hc ⟨rfl, hi, ρc, hc, fc, rhc, ec⟩
  have f1c : Fut X.K ρ1 H1 ρc Hc := f2.trans fc
  have rsc : RS X.K X.mg ρc Hc σw σ := rs.fut (f1.trans f1c)
  have eDc : ρc[h1.length]? = some D := fc.at_ eD
  by_cases hlt : i < S.items.length
  · -- a turn
    obtain ⟨w, hw⟩ : ∃ w, S.items[i]? = some w := ⟨_, List.getElem?_eq_getElem hlt⟩
    have hdrop : S.items.drop i = w :: S.items.drop (i + 1) := by
      rw [List.drop_eq_getElem_cons hlt]
      rw [List.getElem?_eq_getElem hlt] at hw
      rw [Option.some.inj hw]
    rw [hdrop] at ec
    unfold compL at ec
    split at ec
    · rename_i held
      split at ec
      · rename_i σ1 g
        obtain ⟨b, ha, et, ec⟩ := bind_eq_ok ec
        obtain ⟨wk1, _⟩ := wk ρc Hc hc i f1c rhc held
        obtain ⟨go, yld⟩ := wk1 w hw
        refine .inr ⟨go, fun Hn => i + 1 ≤ S.items.length ∧ ∃ ρn hn, Fut X.K (ρ1 ++ [D]) (upd H1 D (.lst [])) ρn Hn ∧ RH X.K X.mg ρn Hn hn ∧
          compL h1.length S.held t mt me (wipeS σw (own.map (·.2))) (S.items.drop (i + 1)) hn = .ok () h', fun H' ⟨l, z⟩ => ⟨S.items.length - (i + 1), by omega, rfl, l, z⟩, fun x H' y => ?_⟩
        obtain ⟨f3, rh3, rx⟩ := yld x H' y
        refine ⟨ρc, wipeS σw (own.map (·.2)), w, σ1, (rsc.fut f3).wipe _, rx, g, fun σ2 rs2 k2 => ⟨wipe_same (by
          have l1 := rs2.1
          have l2 : σ1.length = (wipeS σw (own.map (·.2))).length := setT_len _ _ _ _ g
          have l3 := ((rsc.fut f3).wipe (own.map (·.2))).1
          rw [← l1, l2, l3, L2.wipe_length]) hsl k2, ?_⟩⟩
        · refine ⟨ρc, σ1, hc, b, ha, rs2, rh3, et, fun ρ4 H4 f4 rh4 => ?_⟩
          cases b with
          | false =>
            rw [if_neg Bool.false_ne_true]
            have ec' : compL h1.length S.held t mt me (wipeS σw (own.map (·.2))) (S.items.drop (i + 1)) ha = .ok () h' := ec
            exact ⟨by omega, ρ4, ha, fc.trans (f3.trans f4), rh4, ec'⟩
          | true =>
            rw [if_pos rfl]
            rw [if_pos rfl] at ec
            obtain ⟨xw, hb, ee, ec⟩ := bind_eq_ok ec
            refine ⟨ρ4, σ1, ha, xw, hb, rs2.fut f4, rh4, ee, fun ρ5 H5 v5 f5 rh5 rv5 => ?_⟩
            split at ec
            · rename_i acc hacc
              split at ec
              · rename_i hz
                have eD5 : ρ5[h1.length]? = some D := f5.at_ (f4.at_ eDc)
                obtain ⟨vs, g5, r5⟩ := rh5.lst hacc eD5
                refine ⟨vs, g5, by rw [← r5.len]; exact hz, ?_⟩
                obtain ⟨f6, rh6⟩ := rh5.write hacc eD5 g5 (r5.snoc rv5)
                exact ⟨by omega, ρ5, _, fc.trans (f3.trans (f4.trans (f5.trans f6))), rh6, ec⟩
              · cases ec
            · cases ec
      · cases ec
    · cases ec
  · -- the end
    have hi' : i = S.items.length := by omega
    subst hi'
    rw [List.drop_length] at ec
    unfold compL at ec
    split at ec
    · rename_i held
      cases ec
      obtain ⟨_, wk2⟩ := wk ρc Hc _ _ f1c rhc held
      refine .inl ⟨wk2 rfl, q ρc Hc (.ref D) (f1.trans f1c) rhc (.ref ?_)⟩
      exact eDc
    · cases ec
/-- the evaluator's comprehension of two clauses -/
noncomputable def lc2R (own : List Nat) (t : Tg) (mi mi1 : Sg → Hm → Res Src) (vs1 : List Nat) (t1 : Tg) (me : Sg → Hm → Res Va) : Sg → Hm → Res Va := fun σ h => (mi σ h).bind fun s h1 =>
  (compL2 h1.length s.held t mi1 vs1 t1 me (wipeS σ own) s.items (h1 ++ [.lst []])).bind fun _ h2 => .ok (.ref h1.length) h2
theorem lc2_read {mi1 : Sg → Hm → Res Src} {vs1 : List Nat} {t1 : Tg} (hsl : ∀ j ∈ t.slots, j ∈ own.map (·.2)) (hsl1 : ∀ j ∈ t1.slots, j ∈ vs1) {σ : L2.St} {H : Hp} {Q : VK} (q : tX X.K X.mg (lc2R (own.map (·.2)) t mi mi1 vs1 t1 me) σ H Q) :
    tLc2 (tI X.K X.mg mi) (tGo X.K X.mg t) (tB' X.K X.mg fun _ h => .ok true h) (tI X.K X.mg mi1) (tGo X.K X.mg t1) (tB' X.K X.mg fun _ h => .ok true h) (tX X.K X.mg me) (own.map (·.2)) vs1 σ H Q := by
  obtain ⟨ρ, σw, h, w, h', rs, rh, e, q⟩ := q
  obtain ⟨S, h1, e1, e⟩ := bind_eq_ok e
  obtain ⟨_, h2, e2, e⟩ := bind_eq_ok e
  cases e
  refine ⟨ρ, σw, h, S, h1, rs, rh, e1, fun ρ1 H1 J f1 rh1 wk D hD => ?_⟩
  obtain ⟨f2, rh2, eD⟩ := rh1.new (o := .lst []) (c := .lst []) hD fun H' e f => ⟨[], e, .nil⟩
  refine ⟨fun i m Hc => m = S.items.length - i ∧ i ≤ S.items.length ∧ ∃ ρc hc, Fut X.K (ρ1 ++ [D]) (upd H1 D (.lst [])) ρc Hc ∧ RH X.K X.mg ρc Hc hc ∧
    compL2 h1.length S.held t mi1 vs1 t1 me (wipeS σw (own.map (·.2))) (S.items.drop i) hc = .ok () h', ⟨S.items.length, rfl, Nat.zero_le _, _, _, .refl, rh2, e2⟩, ?_⟩
  rintro i m Hc ⟨rfl, hi, ρc, hc, fc, rhc, ec⟩
  have f1c : Fut X.K ρ1 H1 ρc Hc := f2.trans fc
  have rsc : RS X.K X.mg ρc Hc σw σ := rs.fut (f1.trans f1c)
  have eDc : ρc[h1.length]? = some D := fc.at_ eD
  by_cases hlt : i < S.items.length
  · obtain ⟨w, hw⟩ : ∃ w, S.items[i]? = some w := ⟨_, List.getElem?_eq_getElem hlt⟩
    have hdrop : S.items.drop i = w :: S.items.drop (i + 1) := by
      rw [List.drop_eq_getElem_cons hlt]
      rw [List.getElem?_eq_getElem hlt] at hw
      rw [Option.some.inj hw]
    rw [hdrop] at ec
    unfold compL2 at ec
    split at ec
    · rename_i held
      split at ec
      · rename_i σ1 g
        obtain ⟨S1, ha, es1, ec⟩ := bind_eq_ok ec
        obtain ⟨_, hm, ec1, ec⟩ := bind_eq_ok ec
        obtain ⟨wk1, _⟩ := wk ρc Hc hc i f1c rhc held
        obtain ⟨go, yld⟩ := wk1 w hw
        refine .inr ⟨go, fun Hn => i + 1 ≤ S.items.length ∧ ∃ ρn hn, Fut X.K (ρ1 ++ [D]) (upd H1 D (.lst [])) ρn Hn ∧ RH X.K X.mg ρn Hn hn ∧
          compL2 h1.length S.held t mi1 vs1 t1 me (wipeS σw (own.map (·.2))) (S.items.drop (i + 1)) hn = .ok () h', fun H' ⟨l, z⟩ => ⟨S.items.length - (i + 1), by omega, rfl, l, z⟩, fun x H' y => ?_⟩
        obtain ⟨f3, rh3, rx⟩ := yld x H' y
        refine ⟨ρc, wipeS σw (own.map (·.2)), w, σ1, (rsc.fut f3).wipe _, rx, g, fun σ2 rs2 k2 => ⟨wipe_same (by
          have l1 := rs2.1
          have l2 : σ1.length = (wipeS σw (own.map (·.2))).length := setT_len _ _ _ _ g
          have l3 := ((rsc.fut f3).wipe (own.map (·.2))).1
          rw [← l1, l2, l3, L2.wipe_length]) hsl k2, ?_⟩⟩
        refine ⟨ρc, σ1, hc, true, hc, rs2, rh3, rfl, fun ρ4 H4 f4 rh4 => ?_⟩
        dsimp only
        rw [if_pos rfl]
        refine ⟨ρ4, σ1, hc, S1, ha, rs2.fut f4, rh4, es1, fun ρ5 H5 J1 f5 rh5 wkj => ?_⟩
        -- the inner loop
        have f345 : Fut X.K ρc Hc ρ5 H5 := f3.trans (f4.trans f5)
        refine ⟨fun j k Hk => k = S1.items.length - j ∧ j ≤ S1.items.length ∧ ∃ ρk hk, Fut X.K ρ5 H5 ρk Hk ∧ RH X.K X.mg ρk Hk hk ∧
          compL h1.length S1.held t1 (fun _ h => .ok true h) me (wipeS σ1 vs1) (S1.items.drop j) hk = .ok () hm, ⟨S1.items.length, rfl, Nat.zero_le _, ρ5, ha, .refl, rh5, ec1⟩, ?_⟩
        rintro j k Hk ⟨rfl, hj, ρk, hk, fk, rhk, ek⟩
        have rsk : RS X.K X.mg ρk Hk σ1 σ2 := rs2.fut (f4.trans (f5.trans fk))
        have eDk : ρk[h1.length]? = some D := fk.at_ (f345.at_ eDc)
        by_cases hlt1 : j < S1.items.length
        · obtain ⟨w1, hw1⟩ : ∃ w, S1.items[j]? = some w := ⟨_, List.getElem?_eq_getElem hlt1⟩
          have hdrop1 : S1.items.drop j = w1 :: S1.items.drop (j + 1) := by
            rw [List.drop_eq_getElem_cons hlt1]
            rw [List.getElem?_eq_getElem hlt1] at hw1
            rw [Option.some.inj hw1]
          rw [hdrop1] at ek
          unfold compL at ek
          split at ek
          · rename_i held1
            split at ek
            · rename_i σ3 g3
              dsimp only [bind_ok] at ek
              rw [if_pos rfl] at ek
              obtain ⟨wkj1, _⟩ := wkj ρk Hk hk j fk rhk held1
              obtain ⟨go1, yld1⟩ := wkj1 w1 hw1
              refine .inr ⟨go1, fun Hn => j + 1 ≤ S1.items.length ∧ ∃ ρn hn, Fut X.K ρ5 H5 ρn Hn ∧ RH X.K X.mg ρn Hn hn ∧
                compL h1.length S1.held t1 (fun _ h => .ok true h) me (wipeS σ1 vs1) (S1.items.drop (j + 1)) hn = .ok () hm, fun H' ⟨l, z⟩ => ⟨S1.items.length - (j + 1), by omega, rfl, l, z⟩, fun x1 H1' y1 => ?_⟩
              obtain ⟨f6, rh6, rx1⟩ := yld1 x1 H1' y1
              refine ⟨ρk, wipeS σ1 vs1, w1, σ3, (rsk.fut f6).wipe _, rx1, g3, fun σ4 rs4 k4 => ⟨wipe_same (by
                have l1 := rs4.1
                have l2 : σ3.length = (wipeS σ1 vs1).length := setT_len _ _ _ _ g3
                have l3 := ((rsk.fut f6).wipe vs1).1
                rw [← l1, l2, l3, L2.wipe_length]) hsl1 k4, ?_⟩⟩
              refine ⟨ρk, σ3, hk, true, hk, rs4, rh6, rfl, fun ρ7 H7 f7 rh7 => ?_⟩
              dsimp only
              rw [if_pos rfl]
              obtain ⟨xw, hb, ee, ek⟩ := bind_eq_ok ek
              refine ⟨ρ7, σ3, hk, xw, hb, rs4.fut f7, rh7, ee, fun ρ8 H8 v8 f8 rh8 rv8 => ?_⟩
              split at ek
              · rename_i acc hacc
                split at ek
                · rename_i hz
                  have eD8 : ρ8[h1.length]? = some D := f8.at_ (f7.at_ (f6.at_ eDk))
                  obtain ⟨vs, g8, r8⟩ := rh8.lst hacc eD8
                  refine ⟨vs, g8, by rw [← r8.len]; exact hz, ?_⟩
                  obtain ⟨f9, rh9⟩ := rh8.write hacc eD8 g8 (r8.snoc rv8)
                  exact ⟨by omega, ρ8, _, fk.trans (f6.trans (f7.trans (f8.trans f9))), rh9, ek⟩
                · cases ek
              · cases ek
            · cases ek
          · cases ek
        · have hj' : j = S1.items.length := by omega
          subst hj'
          rw [List.drop_length] at ek
          unfold compL at ek
          split at ek
          · rename_i held1
            cases ek
            obtain ⟨_, wkj2⟩ := wkj ρk Hk _ _ fk rhk held1
            exact .inl ⟨wkj2 rfl, by omega, ρk, _, fc.trans (f345.trans fk), rhk, ec⟩
          · cases ek
      · cases ec
    · cases ec
  · have hi' : i = S.items.length := by omega
    subst hi'
    rw [List.drop_length] at ec
    unfold compL2 at ec
    split at ec
    · rename_i held
      cases ec
      obtain ⟨_, wk2⟩ := wk ρc Hc _ _ f1c rhc held
      refine .inl ⟨wk2 rfl, q ρc Hc (.ref D) (f1.trans f1c) rhc (.ref ?_)⟩
      exact eDc
    · cases ec
end
end Vy
set_option maxHeartbeats 1000000
/-! methods, list(range(..)), own functions, comprehensions as expressions -/
namespace Vy
open PySem PySem.Spec PyProof.Rows L2
section
variable {X : Cx} {a o : Expr} {es : List Expr} {ma mo : Sg → Hm → Res Va} {ms : Sg → Hm → Res (List Va)} {pos p apos : Pos}
noncomputable def meR (m : Me) (mo : Sg → Hm → Res Va) (ms : Sg → Hm → Res (List Va)) : Sg → Hm → Res Va := fun σ h => (mo σ h).bind fun x h1 => if recOk m x h1 = true then (ms σ h1).bind fun ws h2 => meV m x ws h2 else .bad
theorem s_me (m : Me) (ho : PE X o (tX X.K X.mg mo)) (ha : PA X (a :: es) (tXs X.K X.mg ms)) (hb : attributeBase o (meN m) X.env (eval o X.env) = eval o X.env)
    (hf : ((backTo pos (starEach (a :: es) X.env)).all (fun x => !x.1) && (backToKw pos (keywordEach [] X.env)).all (fun x => x.1.isSome)
      && decide ((a :: es).length + ([] : List Keyword).length + (if ([] : List Keyword).isEmpty then 0 else 1) < 30)) = true)
    (hl : (apos.endLine == pos.line) = true) (hs : starEach (a :: es) X.env = (false, eval a X.env) :: starEach es X.env) (hp : (backTo pos (starEach es X.env)).any (·.1) = false) :
    PE X (.Call (.Attribute o (meN m) apos) (a :: es) [] pos) (tX X.K X.mg (meR m mo ms)) :=
  imp_e (pe_bm (me_plain m) (me_slot m) (me_type m) (mt_me m) ho ha hb hf hl hs hp) fun σ H Q q => by
    obtain ⟨ρ, σw, h, w, h', rs, rh, e, q⟩ := q
    obtain ⟨x, h1, e1, e⟩ := bind_eq_ok e
    split at e
    · rename_i ok
      obtain ⟨ws, h2, e2, e⟩ := bind_eq_ok e
      exact ⟨ρ, σw, h, x, h1, rs, rh, e1, fun ρ1 H1 v1 f1 rh1 rv1 => ⟨me_ty rh1 rv1 ok, ρ1, σw, h1, ws, h2, rs.fut f1, rh1, e2, fun ρ2 H2 vs f2 rh2 rvs =>
        ⟨ρ2, h2, x, ws, w, h', rh2, rv1.fut f2, rvs, e, fun ρ3 H3 v3 f3 rh3 rv3 => q ρ3 H3 v3 (f1.trans (f2.trans f3)) rh3 rv3⟩⟩⟩
    · cases e
theorem s_me0 (m : Me) (ho : PE X o (tX X.K X.mg mo)) (hb : attributeBase o (meN m) X.env (eval o X.env) = eval o X.env) (hl : (apos.endLine == pos.line) = true) :
    PE X (.Call (.Attribute o (meN m) apos) [] [] pos) (tX X.K X.mg (meR m mo fun _ h => .ok [] h)) :=
  imp_e (pe_bm0 (me_plain m) (me_slot m) (me_type m) (mt_me m) ho hb hl) fun σ H Q q => by
    obtain ⟨ρ, σw, h, w, h', rs, rh, e, q⟩ := q
    obtain ⟨x, h1, e1, e⟩ := bind_eq_ok e
    split at e
    · rename_i ok
      have e' : meV m x [] h1 = .ok w h' := e
      exact ⟨ρ, σw, h, x, h1, rs, rh, e1, fun ρ1 H1 v1 f1 rh1 rv1 => ⟨me_ty rh1 rv1 ok, ρ1, h1, x, [], w, h', rh1, rv1, .nil, e', fun ρ3 H3 v3 f3 rh3 rv3 => q ρ3 H3 v3 (f1.trans f3) rh3 rv3⟩⟩
    · cases e
/-! ### list(range(..)) -/
/-- vs: the arguments of a range a, b, c; items: its ints -/
def Rg3 (vs : List V) (a b c : Int) : Prop := (vs = [.int b] ∧ a = 0 ∧ c = 1) ∨ (vs = [.int a, .int b] ∧ c = 1) ∨ (vs = [.int a, .int b, .int c] ∧ c ≠ 0 ∧ c.natAbs < 1073741824)
theorem rg_run {t : TA} (hg : Gl X "range") (hm : X.mg "range" = none) (ha : PA X (a :: es) t) (hs : starEach (a :: es) X.env = (false, eval a X.env) :: starEach es X.env) (hpl : (backTo pos (starEach es X.env)).any (·.1) = false)
    {pins : List (Addr × Obj)} {s : Shared} {σ : L2.St} {H : Hp} {Q : Int → Int → Int → Hp → Prop} (I : Inv X pins σ H s) (h : t σ H fun vs H1 => ∃ a b c, Rg3 vs a b c ∧ Q a b c H1) :
    wpAny (model X.prog X.w) X.A (eval (.Call (.Name "range" p) (a :: es) [] pos) X.env) (fun x s' => ∃ r a b c t u v H', x = .ref r ∧ IsRange s'.heap r a b c t u v ∧ Inv X pins σ H' s' ∧ Q a b c H') X.xe s := by
  refine Call_ (ld_blt I hg hm boot_range (PyProof.Rows.callWith_type1 (thn (ha.run pos pins s σ H _ I h) fun us s1 ⟨vs, H1, I1, r1, q1⟩ => ?_) hs hpl))
  obtain ⟨i, j, k, e, q⟩ := q1
  rcases e with ⟨rfl, rfl, rfl⟩ | ⟨rfl, rfl⟩ | ⟨rfl, c0, c1⟩
  · obtain ⟨u, rfl, z⟩ := Vals.one r1
    obtain ⟨t, rfl⟩ := z
    exact call_range_1 ⟨_, 0, j, 1, _, _, _, H1, rfl, IsRange.new _ _ _ _ _ _ _, I1.kept fun b u e => Heap.get?_push_of_some _ e, q⟩
  · obtain ⟨u, v, rfl, z, y⟩ := Vals.two r1
    obtain ⟨t, rfl⟩ := z
    obtain ⟨t', rfl⟩ := y
    exact call_range_2 ⟨_, i, j, 1, _, _, _, H1, rfl, IsRange.new _ _ _ _ _ _ _, I1.kept fun b u e => Heap.get?_push_of_some _ e, q⟩
  · cases r1 with
    | cons r rr =>
      obtain ⟨u, v, rfl, z, y⟩ := Vals.two rr
      obtain ⟨t0, rfl⟩ := r
      obtain ⟨t, rfl⟩ := z
      obtain ⟨t', rfl⟩ := y
      refine call_range_3 c0 ?_ (.inl (PyProof.noPylong_small c1))
      exact ⟨_, i, j, k, _, _, _, H1, rfl, IsRange.new _ _ _ _ _ _ _, I1.kept (t' := s1.toks) fun b u e => Heap.get?_push_of_some _ e, q⟩
/-- the ints of a range -/
def rgI (a c : Int) (n : Nat) : List Int := (List.range n).map fun (i : Nat) => a + (i : Int) * c
theorem rgI_length (a c : Int) (n : Nat) : (rgI a c n).length = n := by unfold rgI; rw [List.length_map, List.length_range]
theorem vals_rgI {a c : Int} {n : Nat} {acc : Array Value} (h : ItemsOf (fun i v => ∃ t, v = .int (a + i * c) t) acc n) : Vals ((rgI a c n).map V.int) acc.toList := by
  have e : acc.toList.length = n := by rw [Array.length_toList]; exact h.1
  unfold rgI
  rw [← e, List.map_map]
  refine vals_of_get acc.toList _ fun j u hj => ?_
  obtain ⟨t, rfl⟩ := h.2 j u (by rw [← hj, Array.getElem?_toList])
  exact ⟨t, rfl⟩
theorem rngV_ok {ρ : List Addr} {H : Hp} {ws : List Va} {vs : List V} {l : List Va} (r : RWs X.K X.mg ρ H ws vs) (e : rngV ws = some l) :
    ∃ a b c, Rg3 vs a b c ∧ Builtin.Range.small a b c = true ∧ Builtin.Range.rangeSize a b c = (l.length : Int) ∧ l = (rgI a c l.length).map Va.int := by
  unfold rngV at e
  split at e
  · split at e
    · rename_i j ok
      cases e
      obtain ⟨v, rfl, rv⟩ := rws_1 r
      have hl : (rng1L j).length = (j - 0).toNat := by unfold rng1L; rw [List.length_map, List.length_range, Int.sub_zero]
      refine ⟨0, j, 1, .inl ⟨by rw [rw_int rv], rfl, rfl⟩, small_one (by omega) (by omega) ok.1 ok.2, by rw [rangeSize_nat, hl], ?_⟩
      rw [hl]
      unfold rng1L rgI
      rw [List.map_map, Int.sub_zero]
      refine List.map_congr_left fun k _ => ?_
      show Va.int (k : Int) = Va.int (0 + (k : Int) * 1)
      rw [Int.zero_add, Int.mul_one]
    · cases e
  · split at e
    · rename_i i j ok
      cases e
      obtain ⟨v, z, rfl, rv, rz⟩ := rws_2 r
      have hl : (rng2L i j).length = (j - i).toNat := by unfold rng2L; rw [List.length_map, List.length_range]
      refine ⟨i, j, 1, .inr (.inl ⟨by rw [rw_int rv, rw_int rz], rfl⟩), small_one ok.1.1 ok.1.2 ok.2.1 ok.2.2, by rw [rangeSize_nat, hl], ?_⟩
      rw [hl]
      unfold rng2L rgI
      rw [List.map_map]
      refine List.map_congr_left fun k _ => ?_
      show Va.int (i + (k : Int)) = Va.int (i + (k : Int) * 1)
      rw [Int.mul_one]
    · cases e
  · split at e
    · rename_i i j c ok
      cases e
      obtain ⟨v, z, y, rfl, rv, rz, ry⟩ := rws_3 r
      have hl : (rng3L i j c).length = (Builtin.Range.rangeSize i j c).toNat := by unfold rng3L; rw [List.length_map, List.length_range]
      refine ⟨i, j, c, .inr (.inr ⟨by rw [rw_int rv, rw_int rz, rw_int ry], ok.1, ok.2.1⟩), ok.2.2.1, by rw [hl]; exact (Int.toNat_of_nonneg ok.2.2.2).symm, ?_⟩
      rw [hl]
      unfold rng3L rgI
      rw [List.map_map]
      rfl
    · cases e
  · cases e
theorem s_lrange {q1 q2 : Pos} (hc : X.calm = true) (hg : Gl X "range") (hm : X.mg "range" = none) (hg2 : Gl X "list") (hm2 : X.mg "list" = none) (ha : PA X (a :: es) (tXs X.K X.mg ms)) (hs : starEach (a :: es) X.env = (false, eval a X.env) :: starEach es X.env) (hpl : (backTo pos (starEach es X.env)).any (·.1) = false) :
    PE X (.Call (.Name "list" p) [.Call (.Name "range" q1) (a :: es) [] pos] [] q2) (tX X.K X.mg fun σ h => (ms σ h).bind fun ws h1 => biV .lrange ws h1) := by
  refine ⟨fun pins s σ H Q I q => ?_⟩
  obtain ⟨ρ, σw, h, w, h', rs, rh, e, q⟩ := q
  obtain ⟨ws, h1, e1, e⟩ := bind_eq_ok e
  have e' : (match rngV ws with
    | some l => newL h1 l
    | none => .bad) = .ok w h' := e
  split at e'
  · rename_i l hl
    obtain ⟨hz, rfl, rfl⟩ := newL_ok e'
    refine Call_ (ld_blt I hg2 hm2 boot_list (PyProof.Rows.callWith_type1 (args_cons (thn (rg_run (Q := fun a b c H1 => Builtin.Range.small a b c = true ∧ Builtin.Range.rangeSize a b c = (l.length : Int) ∧ l = (rgI a c l.length).map Va.int ∧
      ∀ q, H1 q = none → Q (.ref q) (upd H1 q (.lst ((rgI a c l.length).map V.int)))) hg hm ha hs hpl I
      ⟨ρ, σw, h, ws, h1, rs, rh, e1, fun ρ1 H1 vs f1 rh1 rvs => ?_⟩) fun x s1 ⟨r, a, b, c, t, u, v, H1, ex, hr, I1, b1, b2, b3, q⟩ => args_nil ?_) rfl) rfl))
    · obtain ⟨a, b, c, g1, g2, g3, g4⟩ := rngV_ok rvs hl
      refine ⟨a, b, c, g1, g2, g3, g4, fun p hp => ?_⟩
      refine QV.lst (fun ρ2 H2 v2 f2 rh2 rv2 => q ρ2 H2 v2 (f1.trans f2) rh2 rv2) rh1 ?_ hp
      rw [g4, List.length_map, rgI_length]
      exact ints_rws _
    · subst ex
      have hz' := sizeLine_eq
      refine call_list_range (n := l.length) (I1.ok.hd hc) hr b1 b2 (by omega) fun h' tk acc c' hk e' hi => ?_
      refine ⟨.ref s1.heap.objs.size, upd H1 s1.heap.objs.size (.lst ((rgI a c l.length).map V.int)), I1.laid hk (Nat.le_refl _) (show ObjOk X.prog X.w _ _ _ (.lst ((rgI a c l.length).map V.int)) from ⟨?_, acc.toList, c', vals_rgI hi, ?_⟩), rfl, q _ (I1.hok.fresh (Nat.le_refl _))⟩
      · rw [List.length_map, rgI_length]; exact hz
      · rw [Array.toArray_toList]; exact e'
  · cases e'
/-! ### comprehensions -/
variable {elt tg iter : Expr} {ifs : List Expr} {scope : Scope} {own : List (Str × Nat)} {t : Tg} {mi : Sg → Hm → Res Src} {mt : Sg → Hm → Res Bool} {me : Sg → Hm → Res Va}
theorem s_lc (hc : X.calm = true) (hN : X.N.Nodup) (hi : PI X tg iter (tI X.K X.mg mi)) (ok : BlkOk X.N X.env.scope scope own) (hsl : ∀ j ∈ t.slots, j ∈ own.map (·.2))
    (hg : ∀ (s : Shared) (H : Hp) (C : Addr) (cl : List (Str × Addr)) (fp : List Addr), PG (X.blk s H scope (compEnvC scope cl C X.env) fp) tg (tGo X.K X.mg t))
    (ht : ∀ (s : Shared) (H : Hp) (C : Addr) (cl : List (Str × Addr)) (fp : List Addr), PTs (X.blk s H scope (compEnvC scope cl C X.env) fp) ifs (tB' X.K X.mg mt))
    (he : ∀ (s : Shared) (H : Hp) (C : Addr) (cl : List (Str × Addr)) (fp : List Addr), PE (X.blk s H scope (compEnvC scope cl C X.env) fp) elt (tX X.K X.mg me)) (hs : ∀ x, foldedSetIterable iter X.env x = pure x) :
    PE X (.ListComp elt [⟨tg, iter, ifs, 0⟩] scope pos) (tX X.K X.mg (lcR (own.map (·.2)) t mi mt me)) :=
  imp_e (pe_lc hc hN hi ok hg ht he hs) fun σ H Q q => lc_read hsl q
theorem s_pnil : PTs X [] (tB' X.K X.mg fun _ h => .ok true h) := ⟨fun pins s σ H Q I q => by
  obtain ⟨ρ, σw, h, b, h', rs, rh, e, q⟩ := q
  cases e
  exact pts_nil.run pins s σ H Q I (q ρ H .refl rh)⟩
theorem s_lc2 {tg1 iter1 : Expr} {mi1 : Sg → Hm → Res Src} {vs1 : List Nat} {t1 : Tg} (hc : X.calm = true) (hN : X.N.Nodup) (hi : PI X tg iter (tI X.K X.mg mi)) (ok : BlkOk X.N X.env.scope scope own) (hsl : ∀ j ∈ t.slots, j ∈ own.map (·.2)) (hsl1 : ∀ j ∈ t1.slots, j ∈ vs1) (hv : ∀ i ∈ vs1, i ∈ own.map (·.2))
    (hg : ∀ (s : Shared) (H : Hp) (C : Addr) (cl : List (Str × Addr)) (fp : List Addr), PG (X.blk s H scope (compEnvC scope cl C X.env) fp) tg (tGo X.K X.mg t))
    (hi1 : ∀ (s : Shared) (H : Hp) (C : Addr) (cl : List (Str × Addr)) (fp : List Addr), PI (X.blk s H scope (compEnvC scope cl C X.env) fp) tg1 iter1 (tI X.K X.mg mi1))
    (hg1 : ∀ (s : Shared) (H : Hp) (C : Addr) (cl : List (Str × Addr)) (fp : List Addr), PG (X.blk s H scope (compEnvC scope cl C X.env) fp) tg1 (tGo X.K X.mg t1))
    (he : ∀ (s : Shared) (H : Hp) (C : Addr) (cl : List (Str × Addr)) (fp : List Addr), PE (X.blk s H scope (compEnvC scope cl C X.env) fp) elt (tX X.K X.mg me)) (hs : ∀ x, foldedSetIterable iter X.env x = pure x) (hs1 : ∀ env x, foldedSetIterable iter1 env x = pure x) :
    PE X (.ListComp elt [⟨tg, iter, [], 0⟩, ⟨tg1, iter1, [], 0⟩] scope pos) (tX X.K X.mg (lc2R (own.map (·.2)) t mi mi1 vs1 t1 me)) :=
  imp_e (pe_lc2 hc hN hi ok hv hg (fun s H C cl fp => s_pnil) hi1 hg1 (fun s H C cl fp => s_pnil) he hs hs1) fun σ H Q q => lc2_read hsl hsl1 q
end
end Vy
set_option maxHeartbeats 1000000
/-! statements -/
namespace Vy
open PySem PySem.Spec PyProof.Rows L2
section
variable (K : PySem.W.Frag) (mg : Str → Option Value)
/-- what follows a statement's end -/
def FlE (ρ : List Addr) (H : Hp) (h' : Hm) : Fl → Ends → Prop
  | .nx σw', D => ∀ ρ' H' σ', Fut K ρ H ρ' H' → RH K mg ρ' H' h' → RS K mg ρ' H' σw' σ' → D.nx σ' H'
  | .rt w, D => ∀ ρ' H' v, Fut K ρ H ρ' H' → RH K mg ρ' H' h' → RW K mg ρ' H' w v → D.rt v H'
  | .ct σw', D => ∀ ρ' H' σ', Fut K ρ H ρ' H' → RH K mg ρ' H' h' → RS K mg ρ' H' σw' σ' → D.ct σ' H'
  | .bk σw', D => ∀ ρ' H' σ', Fut K ρ H ρ' H' → RH K mg ρ' H' h' → RS K mg ρ' H' σw' σ' → D.bk σ' H'
def tSt (m : Sg → Hm → Res Fl) : TS := fun D σ H => ∃ ρ σw h f h', RS K mg ρ H σw σ ∧ RH K mg ρ H h ∧ m σw h = .ok f h' ∧ FlE K mg ρ H h' f D
end
section
variable {K : PySem.W.Frag} {mg : Str → Option Value} {ρ ρ' ρ'' : List Addr} {H H' H'' : Hp} {h h' : Hm}
theorem FlE.fut {f : Fl} {D : Ends} (q : FlE K mg ρ H h' f D) (g : Fut K ρ H ρ' H') : FlE K mg ρ' H' h' f D := by
  cases f with
  | nx σw => exact fun ρ2 H2 σ2 f2 => q ρ2 H2 σ2 (g.trans f2)
  | rt w => exact fun ρ2 H2 σ2 f2 => q ρ2 H2 σ2 (g.trans f2)
  | ct σw => exact fun ρ2 H2 σ2 f2 => q ρ2 H2 σ2 (g.trans f2)
  | bk σw => exact fun ρ2 H2 σ2 f2 => q ρ2 H2 σ2 (g.trans f2)
variable {X : Cx} {pos : Pos} {e : Expr} {me : Sg → Hm → Res Va}
theorem ss_nil : PSs X [] (tSt X.K X.mg fun σ h => .ok (.nx σ) h) := imp_ss pss_nil fun D σ H q => by
  obtain ⟨ρ, σw, h, f, h', rs, rh, e, q⟩ := q
  cases e
  exact q ρ H σ .refl rh rs
theorem ss_pass : PS X (.Pass pos) (tSt X.K X.mg fun σ h => .ok (.nx σ) h) := imp_s ps_pass fun D σ H q => by
  obtain ⟨ρ, σw, h, f, h', rs, rh, e, q⟩ := q
  cases e
  exact q ρ H σ .refl rh rs
theorem ss_cont : PS X (.Continue pos) (tSt X.K X.mg fun σ h => .ok (.ct σ) h) := imp_s ps_continue fun D σ H q => by
  obtain ⟨ρ, σw, h, f, h', rs, rh, e, q⟩ := q
  cases e
  exact q ρ H σ .refl rh rs
theorem ss_brk : PS X (.Break pos) (tSt X.K X.mg fun σ h => .ok (.bk σ) h) := imp_s ps_break fun D σ H q => by
  obtain ⟨ρ, σw, h, f, h', rs, rh, e, q⟩ := q
  cases e
  exact q ρ H σ .refl rh rs
/-- code that is not come to -/
theorem ss_never {st : Stmt} : PS X st (tSt X.K X.mg fun _ _ => .bad) := imp_s ps_never fun D σ H q => by
  obtain ⟨ρ, σw, h, f, h', rs, rh, e, q⟩ := q
  cases e
variable {st : Stmt} {rest : List Stmt} {m1 m2 : Sg → Hm → Res Fl}
def seqR (m1 m2 : Sg → Hm → Res Fl) : Sg → Hm → Res Fl := fun σ h => (m1 σ h).bind fun f h1 => match f with
    | .nx σ1 => m2 σ1 h1
    | f => .ok f h1
theorem ss_cons (h1 : PS X st (tSt X.K X.mg m1)) (h2 : PSs X rest (tSt X.K X.mg m2)) : PSs X (st :: rest) (tSt X.K X.mg (seqR m1 m2)) := imp_ss (pss_cons h1 h2) fun D σ H q => by
  obtain ⟨ρ, σw, h, f, h', rs, rh, e, q⟩ := q
  obtain ⟨f1, h1, e1, e⟩ := bind_eq_ok e
  refine ⟨ρ, σw, h, f1, h1, rs, rh, e1, ?_⟩
  cases f1 with
  | nx σ1 => exact fun ρ2 H2 σ2 f2 rh2 rs2 => ⟨ρ2, σ1, h1, f, h', rs2, rh2, e, q.fut f2⟩
  | rt w => cases e; exact q
  | ct σ1 => cases e; exact q
  | bk σ1 => cases e; exact q
theorem ss_ret (he : PE X e (tX X.K X.mg me)) : PS X (.Return (some e) pos) (tSt X.K X.mg fun σ h => (me σ h).bind fun x h1 => .ok (.rt x) h1) := imp_s (ps_ret he) fun D σ H q => by
  obtain ⟨ρ, σw, h, f, h', rs, rh, e, q⟩ := q
  obtain ⟨x, h1, e1, e⟩ := bind_eq_ok e
  cases e
  exact ⟨ρ, σw, h, x, h', rs, rh, e1, fun ρ2 H2 v f2 rh2 rv => q ρ2 H2 v f2 rh2 rv⟩
theorem ss_retN : PS X (.Return none pos) (tSt X.K X.mg fun _ h => .ok (.rt .non) h) := imp_s ps_retN fun D σ H q => by
  obtain ⟨ρ, σw, h, f, h', rs, rh, e, q⟩ := q
  cases e
  exact q ρ H .non .refl rh .non
theorem ss_expr (he : PE X e (tX X.K X.mg me)) (hs : swapsWith e none pos.line X.env = pure false) : PS X (.Expr e pos) (tSt X.K X.mg fun σ h => (me σ h).bind fun _ h1 => .ok (.nx σ) h1) := imp_s (ps_expr he hs) fun D σ H q => by
  obtain ⟨ρ, σw, h, f, h', rs, rh, e, q⟩ := q
  obtain ⟨x, h1, e1, e⟩ := bind_eq_ok e
  cases e
  exact ⟨ρ, σw, h, x, h', rs, rh, e1, fun ρ2 H2 v f2 rh2 rv => q ρ2 H2 σ f2 rh2 (rs.fut f2)⟩
def setR (t : Tg) (me : Sg → Hm → Res Va) : Sg → Hm → Res Fl := fun σ h => (me σ h).bind fun x h1 => match setT t x σ with
    | some σ1 => .ok (.nx σ1) h1
    | none => .bad
theorem setR_ok {t : Tg} {σ : Sg} {h h' : Hm} {f : Fl} (e : setR t me σ h = .ok f h') : ∃ x σ1, me σ h = .ok x h' ∧ setT t x σ = some σ1 ∧ f = .nx σ1 := by
  obtain ⟨x, h1, e1, e⟩ := bind_eq_ok e
  split at e
  · rename_i σ1 g
    cases e
    exact ⟨x, σ1, e1, g, rfl⟩
  · cases e
variable {tg : Expr} {t : Tg}
theorem ss_set (he : PE X e (tX X.K X.mg me)) (hg : PG X tg (tGo X.K X.mg t)) (hs : swapsWithSole [tg] e pos.line X.env = pure false) (hw : swappedStores [tg] e X.env = pure none)
    (h1 : (assignEach [tg] X.env).map (·.2) = [assign tg X.env]) : PS X (.Assign [tg] e pos) (tSt X.K X.mg (setR t me)) := imp_s (ps_asg he hg hs hw h1) fun D σ H q => by
  obtain ⟨ρ, σw, h, f, h', rs, rh, e, q⟩ := q
  obtain ⟨x, σ1, e1, g, rfl⟩ := setR_ok e
  exact ⟨ρ, σw, h, x, h', rs, rh, e1, fun ρ2 H2 v f2 rh2 rv => ⟨ρ2, σw, x, σ1, rs.fut f2, rv, g, fun σ' rs' _ => q ρ2 H2 σ' f2 rh2 rs'⟩⟩
/-- name = [..] that the compiler swaps -/
theorem ss_setLc {i : Nat} {y : Str} {py p : Pos} {elt tg iter : Expr} {ifs : List Expr} {scope : Scope} {own : List (Str × Nat)} {mi : Sg → Hm → Res Src} {mt : Sg → Hm → Res Bool} (hc : X.calm = true) (hN : X.N.Nodup) (hy : X.N[i]? = some y) (hyl : X.env.scope.names.lookup y = some .local)
    (hsw : swapsWith (.ListComp elt [⟨tg, iter, ifs, 0⟩] scope p) (some (.Name y py)) pos.line X.env = pure true) (hi : PI X tg iter (tI X.K X.mg mi)) (ok : BlkOk X.N X.env.scope scope own) (hsl : ∀ j ∈ t.slots, j ∈ own.map (·.2))
    (hg : ∀ (s : Shared) (H : Hp) (C : Addr) (cl : List (Str × Addr)) (fp : List Addr), PG (X.blk s H scope (compEnvC scope cl C X.env) fp) tg (tGo X.K X.mg t))
    (ht : ∀ (s : Shared) (H : Hp) (C : Addr) (cl : List (Str × Addr)) (fp : List Addr), PTs (X.blk s H scope (compEnvC scope cl C X.env) fp) ifs (tB' X.K X.mg mt))
    (he : ∀ (s : Shared) (H : Hp) (C : Addr) (cl : List (Str × Addr)) (fp : List Addr), PE (X.blk s H scope (compEnvC scope cl C X.env) fp) elt (tX X.K X.mg me)) (hs : ∀ x, foldedSetIterable iter X.env x = pure x) :
    PS X (.Assign [.Name y py] (.ListComp elt [⟨tg, iter, ifs, 0⟩] scope p) pos) (tSt X.K X.mg (setR (.nm i) (lcR (own.map (·.2)) t mi mt me))) :=
  imp_s (ps_setLc hc hN hy hyl hsw hi ok hg ht he hs) fun D σ H q => by
    obtain ⟨ρ, σw, h, f, h', rs, rh, e, q⟩ := q
    obtain ⟨x, σ1, e1, g, rfl⟩ := setR_ok e
    have g' : some (σw.set i (some x)) = some σ1 := g
    cases g'
    refine lc_read hsl (Q := fun x H1 => gName i x σ H1 D.nx) ⟨ρ, σw, h, x, h', rs, rh, e1, fun ρ2 H2 v f2 rh2 rv => ?_⟩
    exact q ρ2 H2 _ f2 rh2 ((rs.fut f2).set rv i)
theorem setTs_nms : ∀ (l : List Nat) (ws : List Va) (σ σ' : Sg), setTs (l.map Tg.nm) ws σ = some σ' → ws.length = l.length
  | [], [], _, _, _ => rfl
  | [], _ :: _, _, _, e => by cases e
  | _ :: _, [], _, _, e => by cases e
  | i :: l, w :: ws, σ, σ', e => congrArg (· + 1) (setTs_nms l ws (σ.set i (some w)) σ' e)
variable {ms : Sg → Hm → Res (List Va)}
noncomputable def tupR (ms : Sg → Hm → Res (List Va)) : Sg → Hm → Res Va := fun σ h => (ms σ h).bind fun ws h1 => if ws.length ≤ sizeLine then .ok (.tup ws) h1 else .bad
theorem tupR_ok {σ : Sg} {h h' : Hm} {w : Va} (e : tupR ms σ h = .ok w h') : ∃ ws, ms σ h = .ok ws h' ∧ w = .tup ws := by
  obtain ⟨ws, h1, e1, e⟩ := bind_eq_ok e
  split at e
  · cases e
    exact ⟨ws, e1, rfl⟩
  · cases e
theorem ss_par2 {i j : Nat} {x y : Str} {a b : Expr} {px py pt pt2 : Pos} {kt k2 : Nat} (hc : X.calm = true) (hN : X.N.Nodup) (hi : X.N[i]? = some x) (hj : X.N[j]? = some y) (hij : i ≠ j)
    (hx : X.env.scope.names.lookup x = some .local) (hy : X.env.scope.names.lookup y = some .local) (ha : PA X [a, b] (tXs X.K X.mg ms))
    (hw : swappedStores [.Tuple [.Name x px, .Name y py] kt pt] (.Tuple [a, b] k2 pt2) X.env = pure (some [x, y]))
    (hs : swapsWithSole [.Tuple [.Name x px, .Name y py] kt pt] (.Tuple [a, b] k2 pt2) pos.line X.env = pure false) :
    PS X (.Assign [.Tuple [.Name x px, .Name y py] kt pt] (.Tuple [a, b] k2 pt2) pos) (tSt X.K X.mg (setR (.tup [.nm i, .nm j]) (tupR ms))) := imp_s (ps_par hc hN hi hj hij hx hy ha hw hs) fun D σ H q => by
  obtain ⟨ρ, σw, h, f, h', rs, rh, e, q⟩ := q
  obtain ⟨w, σ1, e1, g, rfl⟩ := setR_ok e
  obtain ⟨ws, e2, rfl⟩ := tupR_ok e1
  have g' : setTs ([i, j].map Tg.nm) ws σw = some σ1 := g
  have l := setTs_nms _ _ _ _ g'
  obtain ⟨w1, w2, rfl⟩ : ∃ a b, ws = [a, b] := by
    match ws, l with
    | [a, b], _ => exact ⟨a, b, rfl⟩
  have g2 : some ((σw.set i (some w1)).set j (some w2)) = some σ1 := g'
  cases g2
  refine ⟨ρ, σw, h, _, h', rs, rh, e2, fun ρ2 H2 vs f2 rh2 rv => ?_⟩
  obtain ⟨v1, v2, rfl, r1, r2⟩ := rws_2 rv
  exact ⟨v1, v2, rfl, q ρ2 H2 _ f2 rh2 (((rs.fut f2).set r1 i).set r2 j)⟩
theorem ss_par3 {i j l : Nat} {x y z : Str} {a b c : Expr} {px py pz pt pt2 : Pos} {kt k2 : Nat} (hc : X.calm = true) (hN : X.N.Nodup) (hi : X.N[i]? = some x) (hj : X.N[j]? = some y) (hl : X.N[l]? = some z) (hij : i ≠ j) (hil : i ≠ l) (hjl : j ≠ l)
    (hx : X.env.scope.names.lookup x = some .local) (hy : X.env.scope.names.lookup y = some .local) (hz : X.env.scope.names.lookup z = some .local) (ha : PA X [a, b, c] (tXs X.K X.mg ms))
    (hw : swappedStores [.Tuple [.Name x px, .Name y py, .Name z pz] kt pt] (.Tuple [a, b, c] k2 pt2) X.env = pure (some [x, y, z]))
    (hs : swapsWithSole [.Tuple [.Name x px, .Name y py, .Name z pz] kt pt] (.Tuple [a, b, c] k2 pt2) pos.line X.env = pure false) :
    PS X (.Assign [.Tuple [.Name x px, .Name y py, .Name z pz] kt pt] (.Tuple [a, b, c] k2 pt2) pos) (tSt X.K X.mg (setR (.tup [.nm i, .nm j, .nm l]) (tupR ms))) := imp_s (ps_par3 hc hN hi hj hl hij hil hjl hx hy hz ha hw hs) fun D σ H q => by
  obtain ⟨ρ, σw, h, f, h', rs, rh, e, q⟩ := q
  obtain ⟨w, σ1, e1, g, rfl⟩ := setR_ok e
  obtain ⟨ws, e2, rfl⟩ := tupR_ok e1
  have g' : setTs ([i, j, l].map Tg.nm) ws σw = some σ1 := g
  have ll := setTs_nms _ _ _ _ g'
  obtain ⟨w1, w2, w3, rfl⟩ : ∃ a b c, ws = [a, b, c] := by
    match ws, ll with
    | [a, b, c], _ => exact ⟨a, b, c, rfl⟩
  have g2 : some (((σw.set i (some w1)).set j (some w2)).set l (some w3)) = some σ1 := g'
  cases g2
  refine ⟨ρ, σw, h, _, h', rs, rh, e2, fun ρ2 H2 vs f2 rh2 rv => ?_⟩
  obtain ⟨v1, v2, v3, rfl, r1, r2, r3⟩ := rws_3 rv
  exact ⟨v1, v2, v3, rfl, q ρ2 H2 _ f2 rh2 ((((rs.fut f2).set r1 i).set r2 j).set r3 l)⟩
variable {o i : Expr} {mo mi : Sg → Hm → Res Va}
def setIxR (mo mi me : Sg → Hm → Res Va) : Sg → Hm → Res Fl := fun σ h => (me σ h).bind fun x h1 => (mo σ h1).bind fun a h2 => (mi σ h2).bind fun k h3 => match a, k with
    | .ref n, .int j => (match h3[n]? with
      | some (.lst ws) => (match L2.ixN ws.length j with
        | some q => .ok (.nx σ) (h3.set n (.lst (ws.set q x)))
        | none => .bad)
      | _ => .bad)
    | _, _ => .bad
theorem ss_setIx {p : Pos} (he : PE X e (tX X.K X.mg me)) (ho : PE X o (tX X.K X.mg mo)) (hi : PE X i (tX X.K X.mg mi)) (hs : swapsWithSole [.Subscript o i p] e pos.line X.env = pure false) (hw : swappedStores [.Subscript o i p] e X.env = pure none)
    (h1 : (assignEach [.Subscript o i p] X.env).map (·.2) = [assign (.Subscript o i p) X.env])
    (ha : ∀ v, assign (.Subscript o i p) X.env v = (do
      let ov ← holding [v] (eval o X.env)
      let iv ← holding [v, ov] (eval i X.env)
      standAt p
      holding [v, ov, iv] (setItem ov iv v)
      release [v, ov, iv] [])) : PS X (.Assign [.Subscript o i p] e pos) (tSt X.K X.mg (setIxR mo mi me)) := imp_s (ps_asg he (pg_sub ho hi set_list ha) hs hw h1) fun D σ H q => by
  obtain ⟨ρ, σw, h, f, h', rs, rh, e, q⟩ := q
  obtain ⟨x, h1, e1, e⟩ := bind_eq_ok e
  obtain ⟨a, h2, e2, e⟩ := bind_eq_ok e
  obtain ⟨k, h3, e3, e⟩ := bind_eq_ok e
  split at e
  · split at e
    · rename_i ws hc
      split at e
      · rename_i qn hq
        cases e
        refine ⟨ρ, σw, h, x, h1, rs, rh, e1, fun ρ1 H1 v1 f1 rh1 rv1 => ⟨ρ1, σw, h1, _, h2, rs.fut f1, rh1, e2, fun ρ2 H2 v2 f2 rh2 rv2 => ⟨ρ2, σw, h2, _, h3, rs.fut (f1.trans f2), rh2, e3, fun ρ3 H3 v3 f3 rh3 rv3 => ?_⟩⟩⟩
        obtain ⟨p, rfl, ea⟩ := rw_ref rv2
        obtain ⟨vs, g, r⟩ := rh3.lst hc (f3.at_ ea)
        have hk := rw_int rv3
        obtain ⟨f4, rh4⟩ := rh3.write hc (f3.at_ ea) g (r.set (rv1.fut (f2.trans f3)) qn)
        exact ⟨p, vs, _, qn, rfl, hk, g, by rw [← r.len]; exact hq, q ρ3 _ σ (f1.trans (f2.trans (f3.trans f4))) rh4 (rs.fut (f1.trans (f2.trans (f3.trans f4))))⟩
      · cases e
    · cases e
  · cases e
def dputR (mo : Sg → Hm → Res Va) (ms : Sg → Hm → Res (List Va)) : Sg → Hm → Res Fl := fun σ h => (mo σ h).bind fun a h1 => (ms σ h1).bind fun ws h2 => match a, intsV ws with
    | .ref n, some k => (match h2[n]? with
      | some (.kd ks) => if ks.length < sizeLine ∧ ws.length ≤ sizeLine then .ok (.nx σ) (h2.set n (.kd (putKd ks k))) else .bad
      | _ => .bad)
    | _, _ => .bad
theorem put_kdE (ks : List (List Int)) (k : List Int) : putK (kdE ks) (k.map (Sum.inl : Int → Key)) (V.bl true) = kdE (putKd ks k) := by
  have inj : ∀ {a b : List Int}, a.map (Sum.inl : Int → Key) = b.map Sum.inl → a = b := fun {a b} h => List.map_inj_right (fun _ _ e => Sum.inl.inj e) |>.mp h
  have any : ((kdE ks).any fun kv => decide (kv.1 = k.map (Sum.inl : Int → Key))) = decide (k ∈ ks) := by
    unfold kdE
    rw [List.any_map, Bool.eq_iff_iff, List.any_eq_true, decide_eq_true_eq]
    constructor
    · rintro ⟨x, hx, e⟩
      have e : decide (x.map (Sum.inl : Int → Key) = k.map Sum.inl) = true := e
      rw [← inj (of_decide_eq_true e)]
      exact hx
    · intro h
      exact ⟨k, h, decide_eq_true rfl⟩
  unfold putK putKd
  rw [any]
  by_cases h : k ∈ ks
  · rw [if_pos (decide_eq_true h), if_pos h]
    unfold kdE
    rw [List.map_map]
    refine List.map_congr_left fun x _ => ?_
    show (if x.map Sum.inl = k.map Sum.inl then (x.map Sum.inl, V.bl true) else (x.map Sum.inl, V.bl true)) = _
    split <;> rfl
  · rw [if_neg (by simp [h]), if_neg h]
    unfold kdE
    rw [List.map_append]
    rfl
theorem keys_rws {K : PySem.W.Frag} {mg : Str → Option Value} {ρ : List Addr} {H : Hp} : ∀ {ws : List Va} {vs : List V} {k : List Int}, intsV ws = some k → RWs K mg ρ H ws vs → vs = (k.map (Sum.inl : Int → Key)).map kV
  | [], _, k, e, .nil => by cases e; rfl
  | w :: ws, _, k, e, .cons r rs => by
    cases w with
    | int i =>
      have e : (intsV ws).map (i :: ·) = some k := e
      obtain ⟨l, e1, rfl⟩ := Option.map_eq_some_iff.mp e
      rw [keys_rws e1 rs, rw_int r]
      rfl
    | _ => cases e
theorem ss_dput {es : List Expr} {k : Nat} {p1 p2 : Pos} {value : Expr} {ms : Sg → Hm → Res (List Va)} (cl : Cal X) (ho : PE X o (tX X.K X.mg mo)) (hes : PA X es (tXs X.K X.mg ms)) (hv : PE X value (tC (.bl true))) (hs : swapsWith value (some (.Subscript o (.Tuple es k p1) p2)) pos.line X.env = pure false) :
    PS X (.Assign [.Subscript o (.Tuple es k p1) p2] value pos) (tSt X.K X.mg (dputR mo ms)) := imp_s (ps_dput (by have := cl.un; omega) ho (pe_tup hes) hv hs) fun D σ H q => by
  obtain ⟨ρ, σw, h, f, h', rs, rh, e, q⟩ := q
  obtain ⟨a, h1, e1, e⟩ := bind_eq_ok e
  obtain ⟨ws, h2, e2, e⟩ := bind_eq_ok e
  split at e
  · rename_i n kk hk _
    split at e
    · rename_i ks hc
      split at e
      · rename_i hl
        cases e
        refine ⟨ρ, σw, h, _, h1, rs, rh, e1, fun ρ1 H1 v1 f1 rh1 rv1 => ⟨ρ1, σw, h1, ws, h2, rs.fut f1, rh1, e2, fun ρ2 H2 vs f2 rh2 rvs => ⟨by rw [← rvs.len]; exact hl.2, fun p hp => ?_⟩⟩⟩
        obtain ⟨f3, rh3⟩ := rh2.aside (o := .tup vs) hp
        obtain ⟨ad, rfl, ea⟩ := rw_ref rv1
        have ea2 := f3.at_ (f2.at_ ea)
        have hd : upd H2 p (.tup vs) ad = some (.dT (kdE ks)) := rh3.at_ n _ ad hc ea2
        have ev := keys_rws hk rvs
        obtain ⟨f4, rh4⟩ := rh3.writeD (ks' := putKd ks kk) hc ea2
        refine ⟨ad, _, rfl, DPut.t (k := kk.map Sum.inl) hd (by rw [upd_same, ev]) (by unfold kdE; rw [List.length_map]; exact hl.1), ?_⟩
        rw [put_kdE]
        have ff := f1.trans (f2.trans (f3.trans f4))
        exact q ρ2 _ σ ff rh4 (rs.fut ff)
      · cases e
    · cases e
  · cases e
variable {c : Expr} {a b : List Stmt} {mt : Sg → Hm → Res Bool}
theorem ss_if (hc : PT X c (tB' X.K X.mg mt)) (ha : PSs X a (tSt X.K X.mg m1)) (hb : PSs X b (tSt X.K X.mg m2)) :
    PS X (.If c a b pos) (tSt X.K X.mg fun σ h => (mt σ h).bind fun t h1 => if t = true then m1 σ h1 else m2 σ h1) := imp_s (ps_if hc ha hb) fun D σ H q => by
  obtain ⟨ρ, σw, h, f, h', rs, rh, e, q⟩ := q
  obtain ⟨k, h1, e1, e⟩ := bind_eq_ok e
  refine ⟨ρ, σw, h, k, h1, rs, rh, e1, fun ρ1 H1 f1 rh1 => ?_⟩
  cases k with
  | true => exact ⟨ρ1, σw, h1, f, h', rs.fut f1, rh1, e, q.fut f1⟩
  | false => exact ⟨ρ1, σw, h1, f, h', rs.fut f1, rh1, e, q.fut f1⟩
theorem ss_while (hp : PassesOwn (model X.prog X.w) X.A X.env X.xe) (hc : PT X c (tB' X.K X.mg mt)) (hb : PSs X a (tSt X.K X.mg m1)) :
    PS X (.While c a [] pos) (tSt X.K X.mg (whileR mt m1)) := imp_s (ps_while hp hc hb) fun D σ H q => by
  obtain ⟨ρ, σw, h, f, h', rs, rh, e, q⟩ := q
  obtain ⟨n, e⟩ := whileR_some e
  refine ⟨fun n σ2 H2 => ∃ ρ2 σw2 h2, Fut X.K ρ H ρ2 H2 ∧ RS X.K X.mg ρ2 H2 σw2 σ2 ∧ RH X.K X.mg ρ2 H2 h2 ∧ whileF mt m1 n σw2 h2 = some (.ok f h'), ⟨n, ρ, σw, h, .refl, rs, rh, e⟩, ?_⟩
  rintro n σ2 H2 ⟨ρ2, σw2, h2, f2, rs2, rh2, e⟩
  cases n with
  | zero => cases e
  | succ n =>
    unfold whileF at e
    split at e
    · rename_i h3 g
      refine ⟨ρ2, σw2, h2, true, h3, rs2, rh2, g, fun ρ3 H3 f3 rh3 => ?_⟩
      dsimp only
      rw [if_pos rfl]
      refine ⟨fun σ' H' => ∃ ρ4 σw4 h4, Fut X.K ρ H ρ4 H' ∧ RS X.K X.mg ρ4 H' σw4 σ' ∧ RH X.K X.mg ρ4 H' h4 ∧ whileF mt m1 n σw4 h4 = some (.ok f h'), fun σ' H' z => ⟨n, Nat.lt_succ_self _, z⟩, ?_⟩
      have f03 := f2.trans f3
      split at e
      · rename_i σ4 h4 g2
        exact ⟨ρ3, σw2, h3, _, h4, rs2.fut f3, rh3, g2, fun ρ5 H5 σ5 f5 rh5 rs5 => ⟨ρ5, σ4, h4, f03.trans f5, rs5, rh5, e⟩⟩
      · rename_i σ4 h4 g2
        exact ⟨ρ3, σw2, h3, _, h4, rs2.fut f3, rh3, g2, fun ρ5 H5 σ5 f5 rh5 rs5 => ⟨ρ5, σ4, h4, f03.trans f5, rs5, rh5, e⟩⟩
      · rename_i σ4 h4 g2
        cases e
        exact ⟨ρ3, σw2, h3, _, h', rs2.fut f3, rh3, g2, fun ρ5 H5 σ5 f5 rh5 rs5 => q ρ5 H5 σ5 (f03.trans f5) rh5 rs5⟩
      · rename_i w h4 g2
        cases e
        exact ⟨ρ3, σw2, h3, _, h', rs2.fut f3, rh3, g2, fun ρ5 H5 v5 f5 rh5 rv5 => q ρ5 H5 v5 (f03.trans f5) rh5 rv5⟩
      · cases e
      · cases e
    · rename_i h3 g
      cases e
      refine ⟨ρ2, σw2, h2, false, h', rs2, rh2, g, fun ρ3 H3 f3 rh3 => ?_⟩
      dsimp only
      rw [if_neg Bool.false_ne_true]
      exact q ρ3 H3 σ2 (f2.trans f3) rh3 (rs2.fut f3)
    · cases e
    · cases e
noncomputable def forR (mi : Sg → Hm → Res Src) (t : Tg) (m : Sg → Hm → Res Fl) : Sg → Hm → Res Fl := fun σ h => (mi σ h).bind fun s h1 => forL s.held t m s.items σ h1
theorem ss_for {iter : Expr} {mi : Sg → Hm → Res Src} (hp : PassesOwn (model X.prog X.w) X.A X.env X.xe) (hc : X.calm = true) (hi : PI X tg iter (tI X.K X.mg mi)) (hg : PG X tg (tGo X.K X.mg t)) (hb : PSs X a (tSt X.K X.mg m1))
    (hs : ∀ x, foldedSetIterable iter X.env x = pure x) : PS X (.For tg iter a [] pos) (tSt X.K X.mg (forR mi t m1)) := imp_s (ps_for hp hc hi hg hb hs) fun D σ H q => by
  obtain ⟨ρ, σw, h, f, h', rs, rh, e, q⟩ := q
  obtain ⟨S, h1, e1, e⟩ := bind_eq_ok e
  refine ⟨ρ, σw, h, S, h1, rs, rh, e1, fun ρ1 H1 J f1 rh1 wk => ?_⟩
  refine ⟨fun i m σ2 Hc => m = S.items.length - i ∧ i ≤ S.items.length ∧ ∃ ρc σc hc, Fut X.K ρ1 H1 ρc Hc ∧ RS X.K X.mg ρc Hc σc σ2 ∧ RH X.K X.mg ρc Hc hc ∧ forL S.held t m1 (S.items.drop i) σc hc = .ok f h',
    ⟨S.items.length, rfl, Nat.zero_le _, ρ1, σw, h1, .refl, rs.fut f1, rh1, e⟩, ?_⟩
  rintro i m σ2 Hc ⟨rfl, hi, ρc, σc, hc, fc, rsc, rhc, ec⟩
  by_cases hlt : i < S.items.length
  · obtain ⟨w, hw⟩ : ∃ w, S.items[i]? = some w := ⟨_, List.getElem?_eq_getElem hlt⟩
    have hdrop : S.items.drop i = w :: S.items.drop (i + 1) := by
      rw [List.drop_eq_getElem_cons hlt]
      rw [List.getElem?_eq_getElem hlt] at hw
      rw [Option.some.inj hw]
    rw [hdrop] at ec
    unfold forL at ec
    split at ec
    · rename_i held
      split at ec
      · rename_i σ1 g
        obtain ⟨fl, ha, et, ec⟩ := bind_eq_ok ec
        obtain ⟨wk1, _⟩ := wk ρc Hc hc i fc rhc held
        obtain ⟨go, yld⟩ := wk1 w hw
        refine .inr ⟨go, fun σn Hn => i + 1 ≤ S.items.length ∧ ∃ ρn σn' hn, Fut X.K ρ1 H1 ρn Hn ∧ RS X.K X.mg ρn Hn σn' σn ∧ RH X.K X.mg ρn Hn hn ∧ forL S.held t m1 (S.items.drop (i + 1)) σn' hn = .ok f h',
          fun σ' H' ⟨l, z⟩ => ⟨S.items.length - (i + 1), by omega, rfl, l, z⟩, fun x H' y => ?_⟩
        obtain ⟨f3, rh3, rx⟩ := yld x H' y
        have f03 := fc.trans f3
        refine ⟨ρc, σc, w, σ1, rsc.fut f3, rx, g, fun σ3 rs3 _ => ⟨ρc, σ1, hc, fl, ha, rs3, rh3, et, ?_⟩⟩
        cases fl with
        | nx σ4 => exact fun ρ5 H5 σ5 f5 rh5 rs5 => ⟨by omega, ρ5, σ4, ha, f03.trans f5, rs5, rh5, ec⟩
        | ct σ4 => exact fun ρ5 H5 σ5 f5 rh5 rs5 => ⟨by omega, ρ5, σ4, ha, f03.trans f5, rs5, rh5, ec⟩
        | bk σ4 =>
          cases ec
          exact fun ρ5 H5 σ5 f5 rh5 rs5 => q ρ5 H5 σ5 (f1.trans (f03.trans f5)) rh5 rs5
        | rt w =>
          cases ec
          exact fun ρ5 H5 v5 f5 rh5 rv5 => q ρ5 H5 v5 (f1.trans (f03.trans f5)) rh5 rv5
      · cases ec
    · cases ec
  · have hi' : i = S.items.length := by omega
    subst hi'
    rw [List.drop_length] at ec
    unfold forL at ec
    split at ec
    · rename_i held
      cases ec
      obtain ⟨_, wk2⟩ := wk ρc Hc _ _ fc rhc held
      exact .inl ⟨wk2 rfl, q ρc Hc σ2 (f1.trans fc) rhc rsc⟩
    · cases ec
end
end Vy
set_option maxHeartbeats 1000000
/-! ranges that are walked; the static context; calls of own functions -/
namespace Vy
open PySem PySem.Spec PyProof.Rows L2
/-- no starred expression -/
def isStar : Expr → Bool
  | .Starred _ _ => true
  | _ => false
def noStar (es : List Expr) : Bool := es.all fun e => !isStar e
theorem star_one {a : Expr} {es : List Expr} {env : Env} (h : isStar a = false) : starEach (a :: es) env = (false, eval a env) :: starEach es env := by
  cases a <;> first | rfl | cases h
theorem noStar_cons {a : Expr} {es : List Expr} (h : noStar (a :: es) = true) : isStar a = false ∧ noStar es = true := by
  unfold noStar at h ⊢
  rw [List.all_cons, Bool.and_eq_true] at h
  exact ⟨by simpa using h.1, h.2⟩
theorem noStar_any {env : Env} {pos : Pos} : ∀ {es : List Expr}, noStar es = true → (backTo pos (starEach es env)).any (·.1) = false
  | [], _ => rfl
  | a :: es, h => by
    obtain ⟨h1, h2⟩ := noStar_cons h
    rw [star_one h1]
    show (false || (backTo pos (starEach es env)).any (·.1)) = false
    rw [noStar_any h2]
    rfl
theorem noStar_all {env : Env} {pos : Pos} : ∀ {es : List Expr}, noStar es = true → (backTo pos (starEach es env)).all (fun x => !x.1) = true
  | [], _ => rfl
  | a :: es, h => by
    obtain ⟨h1, h2⟩ := noStar_cons h
    rw [star_one h1]
    show (!false && (backTo pos (starEach es env)).all (fun x => !x.1)) = true
    rw [noStar_all h2]
    rfl
theorem assign_one {a : Expr} {es : List Expr} {env : Env} (h : isStar a = false) : assignEach (a :: es) env = (false, assign a env) :: assignEach es env := by
  cases a <;> first | rfl | cases h
section
variable {X : Cx} {tg a : Expr} {es : List Expr} {ms : Sg → Hm → Res (List Va)} {pos p : Pos}
theorem s_range (hg : Gl X "range") (hm : X.mg "range" = none) (ha : PA X (a :: es) (tXs X.K X.mg ms)) (hs : starEach (a :: es) X.env = (false, eval a X.env) :: starEach es X.env) (hpl : (backTo pos (starEach es X.env)).any (·.1) = false) :
    PI X tg (.Call (.Name "range" p) (a :: es) [] pos) (tI X.K X.mg (iterR .rng ms)) := by
  refine ⟨fun pins s σ H R I q => ?_⟩
  obtain ⟨ρ, σw, h, S, h', rs, rh, e0, q⟩ := q
  obtain ⟨ws, e1, e2⟩ := iterR_ok e0
  obtain ⟨l, e3, rfl⟩ := Option.map_eq_some_iff.mp (show (rngV ws).map (fun l => Src.mk l []) = some S from e2)
  refine thn (rg_run (Q := fun a b c H1 => Builtin.Range.small a b c = true ∧ Builtin.Range.rangeSize a b c = (l.length : Int) ∧ R (Itc a c l.length) H1) hg hm ha hs hpl I
    ⟨ρ, σw, h, ws, h', rs, rh, e1, fun ρ1 H1 vs f1 rh1 rvs => ?_⟩) fun v s1 ⟨r, a, b, c, t, u, x, H1, ex, hr, I1, b1, b2, q⟩ => ?_
  · obtain ⟨a, b, c, g1, g2, g3, g4⟩ := rngV_ok rvs e3
    refine ⟨a, b, c, g1, g2, g3, q ρ1 H1 _ f1 rh1 (wks_rangeC ?_)⟩
    conv => lhs; rw [g4]
    unfold rgI
    rw [List.map_map]
    rfl
  · subst ex
    refine wpAny_pyIter_range hr b1 ?_
    refine pi_one (tk := s1.toks) I1 _ (turn_rangeC _ a c l.length) ?_ q
    have e1 : a + ((0 : Nat) : Int) * c = a := by simp
    have e2 : (l.length : Int) - ((0 : Nat) : Int) = Builtin.Range.rangeSize a b c := by rw [b2]; simp
    show IsRangeIter _ _ (a + ((0 : Nat) : Int) * c) ((l.length : Int) - ((0 : Nat) : Int)) c
    rw [e1, e2]
    exact Heap.get?_push_size _ rfl
end
/-! ### own functions -/
def CX0 : CXT := fun _ _ _ _ _ _ => False
def E0 : XK := fun _ _ _ => False
structure FnG (P : Program) (w : World) (K : PySem.W.Frag) (mg : Str → Option Value) (base : Heap) (k : Nat) (a : Addr) (fd : FuncData) (ps : List Str) (m : List Va → Hm → Res Va) : Prop where
  len : ∀ ws h w h', m ws h = .ok w h' → ws.length = ps.length
  run : ∀ (A : Around) (outer : List Env) (s : Shared) (H : Hp) (args : Args) (us : List Value) (vs : List V) (Q : VK), Room k A → A.guards = some [] → Env0 P w K mg base A outer s H → BindsTo s fd args (ps.zip us) → Vals vs us → rVs K mg m vs H Q →
    codeAny (model P w) A (.call (.ref a) args) (CR CX0 outer P w H s Q E0) s
/-- the names: own functions, own constants, built-in names that the module leaves -/
structure Tb where
  fs : List Str
  pf : Str → List Str
  gs : List Str
  bs : List Str
/-- how the parameters are bound: by position, and behind some by name -/
structure Bn (K : PySem.W.Frag) (fd : FuncData) (ps qs : List Str) : Prop where
  b : Binds K fd ps []
  p : qs = ps
  k : ∀ (s : Shared) (us ws : List Value), us.length + ws.length = ps.length → BindsTo s fd ⟨us, (ps.drop us.length).zip ws⟩ (ps.zip (us ++ ws))
structure Ct where
  tb : Tb
  N : List Str
  sc : Scope
  fc : Str → Bool
structure Stc (c : Ct) (Γ : Ev) (X : Cx) : Prop where
  N : X.N = c.N
  nd : X.N.Nodup
  sc : X.env.scope = c.sc
  fc : ∀ x, c.fc x = true → X.fn x = true
  cal : Cal X
  own : PassesOwn (model X.prog X.w) X.A X.env X.xe
  fns : ∀ f ∈ c.tb.fs, ∃ k a fd ps, X.mg f = some (.ref a) ∧ PySem.W.keepIn X.K (.ref a) = true ∧ Bn X.K fd ps (c.tb.pf f) ∧ FnG X.prog X.w X.K X.mg X.base k a fd ps (Γ.call f) ∧ Room k X.A
  gvs : ∀ x ∈ c.tb.gs, ∀ w, Γ.gv x = some w → ∃ v u, X.mg x = some u ∧ RelV v u ∧ ∀ ρ H, RW X.K X.mg ρ H w v
  bs : ∀ x ∈ c.tb.bs, X.mg x = none
/-- the context of a comprehension's block -/
def Ct.blk (c : Ct) (scope : Scope) : Ct := { c with sc := relS scope c.sc, fc := fun x => scope.names.lookup x == some .cell }
theorem Stc.blk {c : Ct} {Γ : Ev} {X : Cx} (S : Stc c Γ X) (scope : Scope) (s : Shared) (H : Hp) (C : Addr) (cl : List (Str × Addr)) (fp : List Addr) : Stc (c.blk scope) Γ (X.blk s H scope (compEnvC scope cl C X.env) fp) where
  N := S.N
  nd := S.nd
  sc := by
    show relS scope X.env.scope = relS scope c.sc
    rw [S.sc]
  fc := fun x h => h
  cal := ⟨S.cal.calm, S.cal.un, S.cal.gs⟩
  own := PassesOwn.never
  fns := S.fns
  gvs := S.gvs
  bs := S.bs
section
variable {c : Ct} {Γ : Ev} {X : Cx} {x : Str} {p pos : Pos} {es : List Expr} {ms : Sg → Hm → Res (List Va)}
/-- the callee runs -/
theorem run_own (S : Stc c Γ X) {a : Addr} {k : Nat} {fd : FuncData} {ps : List Str} (hb : Bn X.K fd ps (c.tb.pf x)) (F : FnG X.prog X.w X.K X.mg X.base k a fd ps (Γ.call x)) (hr : Room k X.A)
    {pins : List (Addr × Obj)} {σ : L2.St} {H1 : Hp} {s1 : Shared} {ρ1 : List Addr} {h1 h2 h' : Hm} {ws : List Va} {w0 w : Va} {us : List Value} {vs : List V} {Q : VK} (I1 : Inv X pins σ H1 s1) (r : Vals vs us)
    (rh1 : RH X.K X.mg ρ1 H1 h1) (rv : RWs X.K X.mg ρ1 H1 ws vs) (e2 : Γ.call x ws h1 = .ok w0 h2) (e : gc h1 w0 h2 = .ok w h') (q : QV X.K X.mg ρ1 H1 h' w Q) :
    wpAny (model X.prog X.w) X.A (call (.ref a) us) (EP X pins σ Q) X.xe s1 := by
  have hl : (us ++ []).length = ps.length := by
    rw [List.append_nil, ← r.length, ← rv.len]
    exact F.len _ _ _ _ e2
  have hb' := hb.b s1 us I1.kIn hl
  rw [List.append_nil] at hb'
  refine wpAny_call (codeAny_mono (F.run X.A X.stack s1 H1 ⟨us, []⟩ us vs Q hr S.cal.gs I1.env0 hb' r ⟨ρ1, h1, ws, w0, h2, rh1, rv, e2, gc_QV rh1 e q⟩) fun r s' hq => ?_)
  cases r with
  | error e => exact hq.elim
  | ok fl =>
    cases fl with
    | ret u => exact I1.after hq
    | next => exact False.elim hq
    | brk => exact False.elim hq
    | cont => exact False.elim hq
/-- f(..) -/
theorem s_call {b : Expr} (S : Stc c Γ X) (hf : x ∈ c.tb.fs) (hg : Gl X x) (hd : (x == ("__debug__" : Str)) = false) (hn : noStar (b :: es) = true) (ha : PA X (b :: es) (tXs X.K X.mg ms)) :
    PE X (.Call (.Name x p) (b :: es) [] pos) (tX X.K X.mg fun σ h => (ms σ h).bind fun ws h1 => gcR h1 (Γ.call x ws h1)) := by
  refine ⟨fun pins s σ H Q I q => ?_⟩
  obtain ⟨k, a, fd, ps, hm, hk, hb, F, hr⟩ := S.fns x hf
  obtain ⟨ρ, σw, h, w, h', rs, rh, e, q⟩ := q
  obtain ⟨ws, h1, e1, e⟩ := bind_eq_ok e
  obtain ⟨w0, h2, e2, e⟩ := bind_eq_ok e
  refine wpAny_Call_Name_kw (ld_glob I hg hm ?_ hd)
  obtain ⟨n1, n2⟩ := noStar_cons hn
  refine PySem.W.callWith_K (h₀ := X.base) I.ok.mod.kin hk (thn (ha.run pos pins s σ H (fun vs H1 => ∃ ρ1, Fut X.K ρ H ρ1 H1 ∧ RH X.K X.mg ρ1 H1 h1 ∧ RWs X.K X.mg ρ1 H1 ws vs) I
    ⟨ρ, σw, h, ws, h1, rs, rh, e1, fun ρ1 H1 vs f1 rh1 rv => ⟨ρ1, f1, rh1, rv⟩⟩) fun us s1 ⟨vs, H1, I1, r, q1⟩ => ⟨I1.kIn, ?_⟩) (star_one n1) (noStar_any n2)
  obtain ⟨ρ1, f1, rh1, rv⟩ := q1
  exact run_own S hb F hr I1 r rh1 rv e2 e fun ρ2 H2 v2 f2 rh2 rv2 => q ρ2 H2 v2 (f1.trans f2) rh2 rv2
theorem s_call0 (S : Stc c Γ X) (hf : x ∈ c.tb.fs) (hg : Gl X x) (hd : (x == ("__debug__" : Str)) = false) :
    PE X (.Call (.Name x p) [] [] pos) (tX X.K X.mg fun σ h => gcR h (Γ.call x [] h)) := by
  refine ⟨fun pins s σ H Q I q => ?_⟩
  obtain ⟨k, a, fd, ps, hm, hk, hb, F, hr⟩ := S.fns x hf
  obtain ⟨ρ, σw, h, w, h', rs, rh, e, q⟩ := q
  obtain ⟨w0, h2, e2, e⟩ := bind_eq_ok e
  refine wpAny_Call_Name_kw (ld_glob I hg hm ?_ hd)
  exact PySem.W.callWith_K0 I.kIn hk (run_own S hb F hr I .nil rh .nil e2 e q)
/-! keywords -/
theorem s_knil : PK X [] (tXs X.K X.mg fun _ h => .ok [] h) := ⟨fun pos pins s σ H Q I q => by
  obtain ⟨ρ, σw, h, ws, h', rs, rh, e, q⟩ := q
  cases e
  exact pk_nil.run pos pins s σ H Q I (q ρ H [] .refl rh .nil)⟩
theorem s_kcons {nm : Option Str} {a : Expr} {kpos : Pos} {kws : List Keyword} {ma : Sg → Hm → Res Va} (ha : PE X a (tX X.K X.mg ma)) (hr : PK X kws (tXs X.K X.mg ms)) :
    PK X (⟨nm, a, kpos⟩ :: kws) (tXs X.K X.mg fun σ h => (ma σ h).bind fun x h1 => (ms σ h1).bind fun xs h2 => .ok (x :: xs) h2) := ⟨fun pos pins s σ H Q I q => (pk_cons ha hr).run pos pins s σ H Q I (by
  obtain ⟨ρ, σw, h, ws, h', rs, rh, e, q⟩ := q
  obtain ⟨x, h1, e1, e⟩ := bind_eq_ok e
  obtain ⟨xs, h2, e2, e⟩ := bind_eq_ok e
  cases e
  exact ⟨ρ, σw, h, x, h1, rs, rh, e1, fun ρ1 H1 v1 f1 rh1 rv1 => ⟨ρ1, σw, h1, xs, h', rs.fut f1, rh1, e2, fun ρ2 H2 vs f2 rh2 rvs => q ρ2 H2 _ (f1.trans f2) rh2 (.cons (rv1.fut f2) rvs)⟩⟩)⟩
def kwNames (kws : List Keyword) : List Str := kws.filterMap fun k => k.arg
theorem kw_all {env : Env} : ∀ {kws : List Keyword}, kws.all (fun k => k.arg.isSome) = true → (backToKw pos (keywordEach kws env)).all (·.1.isSome) = true ∧ (backToKw pos (keywordEach kws env)).any (·.1.isNone) = false ∧ (backToKw pos (keywordEach kws env)).filterMap (·.1) = kwNames kws
  | [], _ => ⟨rfl, rfl, rfl⟩
  | ⟨nm, a, kp⟩ :: kws, h => by
    rw [List.all_cons, Bool.and_eq_true] at h
    obtain ⟨i1, i2, i3⟩ := kw_all (env := env) h.2
    cases nm with
    | none => cases h.1
    | some n =>
      refine ⟨?_, ?_, ?_⟩
      · show (true && (backToKw pos (keywordEach kws env)).all (·.1.isSome)) = true
        rw [i1]; rfl
      · show (false || (backToKw pos (keywordEach kws env)).any (·.1.isNone)) = false
        rw [i2]; rfl
      · show n :: (backToKw pos (keywordEach kws env)).filterMap (·.1) = n :: kwNames kws
        rw [i3]
/-- the callee runs, by position and by names -/
theorem run_ownk (S : Stc c Γ X) {a : Addr} {k : Nat} {fd : FuncData} {ps ks : List Str} (hb : Bn X.K fd ps (c.tb.pf x)) (F : FnG X.prog X.w X.K X.mg X.base k a fd ps (Γ.call x)) (hr : Room k X.A)
    {pins : List (Addr × Obj)} {σ : L2.St} {H1 : Hp} {s1 : Shared} {ρ1 : List Addr} {h1 h2 h' : Hm} {ws1 ws2 : List Va} {w0 w : Va} {us zs : List Value} {vs ys : List V} {Q : VK} (I1 : Inv X pins σ H1 s1) (r : Vals vs us) (r2 : Vals ys zs) (hk : ks = (c.tb.pf x).drop us.length)
    (rh1 : RH X.K X.mg ρ1 H1 h1) (rv : RWs X.K X.mg ρ1 H1 ws1 vs) (rv2 : RWs X.K X.mg ρ1 H1 ws2 ys) (e2 : Γ.call x (ws1 ++ ws2) h1 = .ok w0 h2) (e : gc h1 w0 h2 = .ok w h') (q : QV X.K X.mg ρ1 H1 h' w Q) :
    wpAny (model X.prog X.w) X.A (call (.ref a) us (ks.zip zs)) (EP X pins σ Q) X.xe s1 := by
  have hl : us.length + zs.length = ps.length := by
    have := F.len _ _ _ _ e2
    rw [List.length_append, rv.len, rv2.len, r.length, r2.length] at this
    exact this
  have hb' := hb.k s1 us zs hl
  rw [hk, hb.p]
  refine wpAny_call (codeAny_mono (F.run X.A X.stack s1 H1 ⟨us, (ps.drop us.length).zip zs⟩ (us ++ zs) (vs ++ ys) Q hr S.cal.gs I1.env0 hb' (r.append r2) ⟨ρ1, h1, ws1 ++ ws2, w0, h2, rh1, rv.app rv2, e2, gc_QV rh1 e q⟩) fun r s' hq => ?_)
  cases r with
  | error e => exact hq.elim
  | ok fl =>
    cases fl with
    | ret u => exact I1.after hq
    | next => exact False.elim hq
    | brk => exact False.elim hq
    | cont => exact False.elim hq
/-- f(.., k = ..) -/
theorem s_callk {b : Expr} {kws : List Keyword} {ms2 : Sg → Hm → Res (List Va)} (S : Stc c Γ X) (hf : x ∈ c.tb.fs) (hg : Gl X x) (hd : (x == ("__debug__" : Str)) = false) (hn : noStar (b :: es) = true) (ha : PA X (b :: es) (tXs X.K X.mg ms)) (hk : PK X kws (tXs X.K X.mg ms2))
    (hs : kws.all (fun k => k.arg.isSome) = true) (hks : kwNames kws = (c.tb.pf x).drop (b :: es).length) (hlen : ∀ σ h ws h', ms σ h = .ok ws h' → ws.length = (b :: es).length) :
    PE X (.Call (.Name x p) (b :: es) kws pos) (tX X.K X.mg fun σ h => (ms σ h).bind fun ws h1 => (ms2 σ h1).bind fun us h2 => gcR h2 (Γ.call x (ws ++ us) h2)) := by
  refine ⟨fun pins s σ H Q I q => ?_⟩
  obtain ⟨k, a, fd, ps, hm, hkk, hb, F, hr⟩ := S.fns x hf
  obtain ⟨ρ, σw, h, w, h', rs, rh, e, q⟩ := q
  obtain ⟨ws, h1, e1, e⟩ := bind_eq_ok e
  obtain ⟨us, h2, e2, e⟩ := bind_eq_ok e
  obtain ⟨w0, h3, e3, e⟩ := bind_eq_ok e
  obtain ⟨k1, k2, k3⟩ := kw_all (pos := pos) (env := X.env) hs
  refine wpAny_Call_Name_kw (ld_glob I hg hm ?_ hd)
  obtain ⟨n1, n2⟩ := noStar_cons hn
  refine PySem.W.callWith_KW (h₀ := X.base) I.ok.mod.kin hkk k1 (thn (ha.run pos pins s σ H (fun vs H1 => ∃ ρ1, Fut X.K ρ H ρ1 H1 ∧ RH X.K X.mg ρ1 H1 h1 ∧ RWs X.K X.mg ρ1 H1 ws vs) I
    ⟨ρ, σw, h, ws, h1, rs, rh, e1, fun ρ1 H1 vs f1 rh1 rv => ⟨ρ1, f1, rh1, rv⟩⟩) fun vu s1 ⟨vs, H1, I1, r, q1⟩ => ?_) (by rw [noStar_any hn, k2]; rfl) (star_one n1)
  obtain ⟨ρ1, f1, rh1, rv⟩ := q1
  refine thn (hk.run pos pins s1 σ H1 (fun ys H2 => ∃ ρ2, Fut X.K ρ1 H1 ρ2 H2 ∧ RH X.K X.mg ρ2 H2 h2 ∧ RWs X.K X.mg ρ2 H2 us ys) I1 ⟨ρ1, σw, h1, us, h2, rs.fut f1, rh1, e2, fun ρ2 H2 ys f2 rh2 rv2 => ⟨ρ2, f2, rh2, rv2⟩⟩) fun zs s2 ⟨ys, H2, I2, r2, q2⟩ => ⟨I2.kIn, ?_⟩
  obtain ⟨ρ2, f2, rh2, rv2⟩ := q2
  rw [k3]
  refine run_ownk S hb F hr I2 r r2 (by show _ = List.drop vu.length _; rw [hks, ← r.length, ← rv.len, hlen _ _ _ _ e1]) rh2 (rv.fut f2) rv2 e3 e fun ρ3 H3 v3 f3 rh3 rv3 => q ρ3 H3 v3 (f1.trans (f2.trans f3)) rh3 rv3
theorem s_callk0 {kws : List Keyword} {ms2 : Sg → Hm → Res (List Va)} (S : Stc c Γ X) (hf : x ∈ c.tb.fs) (hg : Gl X x) (hd : (x == ("__debug__" : Str)) = false) (hk : PK X kws (tXs X.K X.mg ms2))
    (hs : kws.all (fun k => k.arg.isSome) = true) (hks : kwNames kws = c.tb.pf x) :
    PE X (.Call (.Name x p) [] kws pos) (tX X.K X.mg fun σ h => (ms2 σ h).bind fun us h2 => gcR h2 (Γ.call x us h2)) := by
  refine ⟨fun pins s σ H Q I q => ?_⟩
  obtain ⟨k, a, fd, ps, hm, hkk, hb, F, hr⟩ := S.fns x hf
  obtain ⟨ρ, σw, h, w, h', rs, rh, e, q⟩ := q
  obtain ⟨us, h2, e2, e⟩ := bind_eq_ok e
  obtain ⟨w0, h3, e3, e⟩ := bind_eq_ok e
  obtain ⟨k1, k2, k3⟩ := kw_all (pos := pos) (env := X.env) hs
  refine wpAny_Call_Name_kw (ld_glob I hg hm ?_ hd)
  refine PySem.W.callWith_KW0 (h₀ := X.base) I.ok.mod.kin hkk k1 (thn (hk.run pos pins s σ H (fun ys H2 => ∃ ρ2, Fut X.K ρ H ρ2 H2 ∧ RH X.K X.mg ρ2 H2 h2 ∧ RWs X.K X.mg ρ2 H2 us ys) I ⟨ρ, σw, h, us, h2, rs, rh, e2, fun ρ2 H2 ys f2 rh2 rv2 => ⟨ρ2, f2, rh2, rv2⟩⟩) fun zs s2 ⟨ys, H2, I2, r2, q2⟩ => ⟨I2.kIn, ?_⟩) (by rw [k2]; rfl)
  obtain ⟨ρ2, f2, rh2, rv2⟩ := q2
  rw [k3]
  exact run_ownk S hb F hr I2 (us := []) (vs := []) (ws1 := []) .nil r2 (by rw [hks]; rfl) rh2 .nil rv2 e3 e fun ρ3 H3 v3 f3 rh3 rv3 => q ρ3 H3 v3 (f2.trans f3) rh3 rv3
/-- what a value leaves behind is collected -/
theorem s_gc {e : Expr} {m : Sg → Hm → Res Va} (he : PE X e (tX X.K X.mg m)) : PE X e (tX X.K X.mg fun σ h => gcR h (m σ h)) := imp_e he fun σ H Q q => by
  obtain ⟨ρ, σw, h, w, h', rs, rh, e, q⟩ := q
  obtain ⟨w0, h2, e2, e⟩ := bind_eq_ok e
  exact ⟨ρ, σw, h, w0, h2, rs, rh, e2, gc_QV rh e q⟩
end
end Vy
set_option maxHeartbeats 2000000
/-! zip of two or three, enumerate: over lists and tuples in any mix -/
namespace Vy
open PySem PySem.Spec PyProof.Rows L2
/-- a tuple (t) or a list -/
def SqK (t : Bool) (K : PySem.W.Frag) (H : Hp) (a : Addr) (xs : List V) : Prop := match t with
  | true => SqT K H a xs
  | false => SqL K H a xs
def IsIt (t : Bool) (h : Heap) (it a : Addr) (i : Nat) : Prop := match t with
  | true => h.IsTupleIter it a i
  | false => h.IsListIter it a i
def IsSq (t : Bool) (h : Heap) (a : Addr) (items : Array Value) : Prop := match t with
  | true => h.IsTuple a items
  | false => h.IsList a items
def itO (t : Bool) (a : Addr) : Obj := match t with
  | true => { cls := .type "tuple_iterator", data := .fields #[.ref a, .int 0 0] }
  | false => { cls := .type "list_iterator", data := .fields #[.ref a, .int 0 0] }
section
variable {X : Cx} {pins : List (Addr × Obj)} {σ : L2.St} {H : Hp} {s : Shared} {t : Bool} {a it : Addr} {xs ys : List V}
theorem Inv.sq (I : Inv X pins σ H s) (h : SqK t X.K H a xs) : ∃ its : List Value, Vals xs its ∧ IsSq t s.heap a its.toArray := by
  cases t with
  | true =>
    obtain ⟨its, r, p, _⟩ := I.tuple h
    exact ⟨its, r, (show s.heap.IsTuple a its.toArray from p)⟩
  | false =>
    obtain ⟨its, r, p, _⟩ := I.list h
    exact ⟨its, r, p.isList⟩
theorem Inv.sq_inj (I : Inv X pins σ H s) (h : SqK t X.K H a xs) (h' : SqK t X.K H a ys) : xs = ys := by
  cases t with
  | true => exact I.tuple_inj h h'
  | false => exact I.list_inj h h'
theorem IsSq.lt {h : Heap} {items : Array Value} (p : IsSq t h a items) : a < h.objs.size := by
  cases t with
  | true => obtain ⟨_, e, _⟩ := p; exact Heap.lt_size e
  | false => obtain ⟨_, e, _⟩ := p; exact Heap.lt_size e
theorem IsIt.at_ {h h' : Heap} {i : Nat} (p : IsIt t h it a i) (k : ∀ o, h.get? it = some o → h'.get? it = some o) : IsIt t h' it a i := by
  cases t with
  | true => exact Heap.IsTupleIter.at p k
  | false => exact Heap.IsListIter.at p k
theorem IsIt.obj {h : Heap} {i : Nat} (p : IsIt t h it a i) : ∃ o, h.get? it = some o ∧ ∀ v, o.data ≠ .cell v := by
  cases t with
  | true =>
    obtain ⟨o, e, _, d⟩ := p
    exact ⟨o, e, fun v q => by rw [d] at q; cases q⟩
  | false =>
    obtain ⟨o, e, _, d⟩ := p
    exact ⟨o, e, fun v q => by rw [d] at q; cases q⟩
theorem itO_is {h : Heap} (e : h.get? it = some (itO t a)) : IsIt t h it a 0 := by
  cases t with
  | true => exact ⟨_, e, rfl, rfl⟩
  | false => exact ⟨_, e, rfl, rfl⟩
theorem drawsK {prog : Program} {w : World} {A : Around} (hh : A.handled = none) (t : Bool) (it a : Addr) (hne : a ≠ it) (items : Array Value) :
    Draws prog w A it [it, a] items.size (fun i v => items[i]? = some v) (fun i h => IsIt t h it a i ∧ IsSq t h a items) := by
  cases t with
  | true => exact Draws.tuple hh it a hne items
  | false => exact Draws.list hh it a hne items
theorem beginsK (t : Bool) (a : Addr) (items : Array Value) : Begins (.ref a) (itO t a) fun h => IsSq t h a items := by
  cases t with
  | true => exact begins_tuple a items
  | false => exact begins_list a items
end
/-! ### enumerate -/
def ItE (K : PySem.W.Frag) (t : Bool) (a : Addr) : It :=
  ⟨fun i H => ∃ (xs : List V) (x : V), SqK t K H a xs ∧ xs[i]? = some x, fun i H v H' => ∃ T x, v = .ref T ∧ H T = none ∧ H' = upd H T (.tup [.int (i : Nat), x]) ∧ ∀ xs, SqK t K H a xs → xs[i]? = some x,
    fun i H => ∃ xs : List V, SqK t K H a xs ∧ xs.length = i⟩
theorem turnE {P : Program} {w : World} {K : PySem.W.Frag} {elts : List Expr} {kk : Nat} {tpos : Pos} (t : Bool) (a e it : Addr) (hei : e ≠ it) (hae : e ≠ a) (hai : a ≠ it) :
    Turn P w K (.Tuple elts kk tpos) (ItE K t a) [e, it] e (fun i h => (∃ old, IsEnum h e it ((i : Nat) : Int) old) ∧ IsIt t h it a i) where
  mem := by simp
  obj := fun i h st b hb => by
    obtain ⟨⟨old, he⟩, hi⟩ := st
    have e' : b = e ∨ b = it := by simpa using hb
    rcases e' with z | z
    · rw [z]; exact ⟨_, he, fun v q => nomatch q⟩
    · rw [z]; exact hi.obj
  keep := fun i h h' st k => let ⟨⟨old, he⟩, hi⟩ := st; ⟨⟨old, k e (by simp) _ he⟩, hi.at_ fun o q => k it (by simp) o q⟩
  item := by
    intro X hP hw hK hc i pins s σ H E I hf st hg
    subst hP hw hK
    obtain ⟨⟨old, he⟩, hit⟩ := st
    obtain ⟨xs, x, hq, hx⟩ := hg
    obtain ⟨its, rv, p⟩ := Inv.sq I hq
    obtain ⟨u, hu, ru⟩ := rv.get hx
    have hel : e < s.heap.objs.size := Heap.lt_size he
    have hil : it < s.heap.objs.size := by obtain ⟨_, q, _⟩ := hit.obj; exact Heap.lt_size q
    have hlt : i < its.toArray.size := by
      have := (List.getElem?_eq_some_iff.mp hu).1
      simpa using this
    refine wpAny_pyNext_enum_itemD (drawsK (A := X.A.in1) (show X.A.in1.handled = none from I.ok.hd hc) t it a hai its.toArray) he ⟨hit, p⟩ hlt hei (by simp [hei, hae]) fun x' h' tk px ho hst hT hsz hk => ?_
    have hxu : x' = u := by
      have px' : its.toArray[i]? = some x' := px
      rw [List.getElem?_toArray, hu] at px'
      exact (Option.some.inj px').symm
    subst hxu
    refine ⟨_, rfl, wpAny_letOwnedTupleGo_enum (s := { s with heap := h', toks := tk + 1 }) ho fun h'' he' sb => ?_⟩
    have hT2 : h''.get? s.heap.objs.size = some { cls := .type "tuple", data := .seq #[.int i tk, x'] } := (sb.2 _ (Nat.ne_of_gt hel)).trans hT
    have new : ObjOk X.prog X.w (upd H s.heap.objs.size (.tup [.int (i : Nat), x])) h'' s.heap.objs.size (.tup [.int (i : Nat), x]) :=
      ⟨by show 2 ≤ sizeLine; decide, [.int i tk, x'], .cons ⟨_, rfl⟩ (.cons ru .nil), ⟨_, hT2, rfl, _, rfl⟩⟩
    have I1 : Inv X pins σ (upd H s.heap.objs.size (.tup [.int (i : Nat), x])) { s with heap := h'', toks := tk + 1 } :=
      I.turnedNew (ch := [e, it]) (fun b ob hb q => (sb.2 b (fun z => hb (by simp [z]))).trans (hk b ob (fun z => hb (by simp [z])) (fun z => hb (by simp [z])) q)) hf (Nat.le_refl _) new
    refine ⟨.ref s.heap.objs.size, _, I1, rfl, ⟨_, x, rfl, I.hok.fresh (Nat.le_refl _), rfl, fun ys hy => by rw [Inv.sq_inj I hy hq]; exact hx⟩, ⟨⟨x', ?_⟩, hst.1.at_ fun o q => (sb.2 it (Ne.symm hei)).trans q⟩, fun b hb => ?_⟩
    · have e1 : ((i + 1 : Nat) : Int) = (i : Int) + 1 := by omega
      rw [e1]
      exact he'
    · have hb' : b < s.heap.objs.size := by
        have e' : b = e ∨ b = it := by simpa using hb
        rcases e' with z | z
        · rw [z]; exact hel
        · rw [z]; exact hil
      rw [upd_ne (Nat.ne_of_lt hb')]
      exact (hf b hb).1
  done := by
    intro X hP hw hK hc i pins s σ H E I hf st hg
    subst hP hw hK
    obtain ⟨⟨old, he⟩, hit⟩ := st
    obtain ⟨xs, hq, hl⟩ := hg
    obtain ⟨its, rv, p⟩ := Inv.sq I hq
    have hli : its.toArray.size = i := by
      have := rv.length
      simp
      omega
    obtain ⟨f0, f1, f2, f3, f4, f5⟩ := hf it (by simp)
    subst hli
    exact wpAny_pyNext_enum_endD (drawsK (A := X.A.in1) (show X.A.in1.handled = none from I.ok.hd hc) t it a hai its.toArray) he ⟨hit, p⟩ fun h' eb => ⟨rfl, I.turned (t' := s.toks) (fun b o hb q => eb b o hb q) f0 f1 f3 f4 f5⟩
  self := fun A i s Q E st h => let ⟨⟨_, he⟩, _⟩ := st; wpAny_pyIter_enum he h
theorem meets_enumB {v : Value} {o : Obj} {H : Heap → Prop} (B : Begins v o H) : Meets (Builtin.«enumerate.__new__» ⟨[.type "enumerate", v], []⟩) (fun _ R s => H s.heap ∧
      R (.ok (.ret (.ref (s.heap.push o).objs.size))) { s with heap := (s.heap.push o).push { cls := .type "enumerate", data := .fields #[.none, .bool false, .ref s.heap.objs.size, rawInt 0, .none, .none] } }) :=
  .of_wp fun prog w A R s h => by
    obtain ⟨hp, g, d, tk, os⟩ := s
    obtain ⟨h1, h⟩ := h
    have hsub := sub_enumerate
    have go : ∀ {A' : Around} {E : Value → Shared → Prop} {Q : Value → Shared → Prop}, Q (.ref hp.objs.size) ⟨hp.push o, g, d, tk, os⟩ → wpAny (model prog w) A' (pyIter v) Q E ⟨hp, g, d, tk, os⟩ :=
      fun q => B.iter prog w _ _ ⟨hp, g, d, tk, os⟩ _ h1 q
    wp_walk using go
    refine wpAny_stack_any fun st => wpAny_pure ?_
    split
    · rename_i c _ _ _ _ _
      cases (c == Value.type "enumerate")
      · wp_walk using go
        exact ⟨_, rfl, h⟩
      · wp_walk using go
        exact ⟨_, rfl, h⟩
    · wp_walk using go
      exact ⟨_, rfl, h⟩
theorem call_enumB {prog : Program} {w : World} {A : Around} {E : Value → Shared → Prop} {s : Shared} {v : Value} {o : Obj} {H : Heap → Prop} {Q : Value → Shared → Prop} (B : Begins v o H) (h1 : H s.heap)
    (h : ∀ h', IsEnum h' (s.heap.objs.size + 1) s.heap.objs.size 0 .none → h'.get? s.heap.objs.size = some o → (∀ b o, s.heap.get? b = some o → h'.get? b = some o) → Q (.ref (s.heap.objs.size + 1)) { s with heap := h' }) :
    wpAny (model prog w) A (call (.type "enumerate") [v]) Q E s := by
  refine callType_new F.called_enumerate (by decide) (F.typeCall_enumerate_1 _) (F.newCall_enumerate_1 _) (fun obj => F.args_object_init_2 obj _) F.entry_enumerate_new (meets_enumB B) ⟨h1, ?_⟩
  have hz : (s.heap.push o).objs.size = s.heap.objs.size + 1 := Heap.size_push ..
  show _ ∧ _
  rw [hz]
  have he := Heap.get?_push_size (s.heap.push o) (o := { cls := .type "enumerate", data := .fields #[.none, .bool false, .ref s.heap.objs.size, rawInt 0, .none, .none] }) rfl
  rw [hz] at he
  exact ⟨⟨_, he, rfl⟩, h _ he (Heap.get?_push_of_some _ (Heap.get?_push_size _ B.free)) fun b o x => Heap.get?_push_of_some _ (Heap.get?_push_of_some _ x)⟩
/-! ### zip -/
def ItZ2 (K : PySem.W.Frag) (t1 t2 : Bool) (a b : Addr) : It :=
  ⟨fun i H => ∃ (xs ys : List V) (x y : V), SqK t1 K H a xs ∧ SqK t2 K H b ys ∧ xs[i]? = some x ∧ ys[i]? = some y,
    fun i H v H' => ∃ T x y, v = .ref T ∧ H T = none ∧ H' = upd H T (.tup [x, y]) ∧ (∀ xs, SqK t1 K H a xs → xs[i]? = some x) ∧ ∀ ys, SqK t2 K H b ys → ys[i]? = some y,
    fun i H => ∃ xs ys : List V, SqK t1 K H a xs ∧ SqK t2 K H b ys ∧ i ≤ xs.length ∧ i ≤ ys.length ∧ (i = xs.length ∨ i = ys.length)⟩
theorem vals_at {its : List Value} {xs : List V} {i : Nat} {x : V} {u u' : Value} (hu : its[i]? = some u) (px : its.toArray[i]? = some u') : u' = u := by
  rw [List.getElem?_toArray, hu] at px
  exact (Option.some.inj px).symm
theorem turnZ2 {P : Program} {w : World} {K : PySem.W.Frag} {elts : List Expr} {kk : Nat} {tpos : Pos} (t1 t2 : Bool) {a b z TI TO i1 i2 : Addr} (S : ZipSep2 z TI TO i1 i2 [i1, a] [i2, b]) (h1 : a ≠ i1) (h2 : b ≠ i2) :
    Turn P w K (.Tuple elts kk tpos) (ItZ2 K t1 t2 a b) [z, TI, TO, i1, i2] z (fun i h => IsZip h z TI TO .none ∧ IsTupOf2 h TI (.ref i1) (.ref i2) ∧ (∃ x y, IsTupOf2 h TO x y) ∧ IsIt t1 h i1 a i ∧ IsIt t2 h i2 b i) where
  mem := by simp
  obj := fun i h st c hc => by
    obtain ⟨hz, hTI, ⟨x, y, hTO⟩, k1, k2⟩ := st
    have e' : c = z ∨ c = TI ∨ c = TO ∨ c = i1 ∨ c = i2 := by simpa using hc
    rcases e' with q | q | q | q | q
    · rw [q]; exact ⟨_, hz, fun v q => nomatch q⟩
    · rw [q]; exact ⟨_, hTI, fun v q => nomatch q⟩
    · rw [q]; exact ⟨_, hTO, fun v q => nomatch q⟩
    · rw [q]; exact k1.obj
    · rw [q]; exact k2.obj
  keep := fun i h h' st k => by
    obtain ⟨hz, hTI, ⟨x, y, hTO⟩, k1, k2⟩ := st
    exact ⟨k z (by simp) _ hz, k TI (by simp) _ hTI, ⟨x, y, k TO (by simp) _ hTO⟩, k1.at_ fun o q => k i1 (by simp) o q, k2.at_ fun o q => k i2 (by simp) o q⟩
  item := by
    intro X hP hw hK hc i pins s σ H E I hf st hg
    subst hP hw hK
    obtain ⟨hz, hTI, ⟨x0, y0, hTO⟩, k1, k2⟩ := st
    obtain ⟨xs, ys, x, y, hqx, hqy, hx, hy⟩ := hg
    obtain ⟨its, rv, p⟩ := Inv.sq I hqx
    obtain ⟨its2, rv2, p2⟩ := Inv.sq I hqy
    obtain ⟨u, hu, ru⟩ := rv.get hx
    obtain ⟨u2, hu2, ru2⟩ := rv2.get hy
    have hh : X.A.in1.handled = none := I.ok.hd hc
    have l1 : i < its.toArray.size := by have := (List.getElem?_eq_some_iff.mp hu).1; simpa using this
    have l2 : i < its2.toArray.size := by have := (List.getElem?_eq_some_iff.mp hu2).1; simpa using this
    have hzl : z < s.heap.objs.size := Heap.lt_size hz
    have lt : ∀ c ∈ [z, TI, TO, i1, i2], c < s.heap.objs.size := fun c hcm => by
      have e' : c = z ∨ c = TI ∨ c = TO ∨ c = i1 ∨ c = i2 := by simpa using hcm
      rcases e' with q | q | q | q | q
      · rw [q]; exact hzl
      · rw [q]; exact Heap.lt_size hTI
      · rw [q]; exact Heap.lt_size hTO
      · rw [q]; obtain ⟨_, e1, _⟩ := k1.obj; exact Heap.lt_size e1
      · rw [q]; obtain ⟨_, e2, _⟩ := k2.obj; exact Heap.lt_size e2
    refine wpAny_pyNext_zipD2_item S (drawsK (A := X.A.in1) hh t1 i1 a h1 its.toArray) (drawsK (A := X.A.in1) hh t2 i2 b h2 its2.toArray) hz hTI hTO ⟨k1, p⟩ ⟨k2, p2⟩ l1 l2 fun x' y' h' tk px py z' TO' s1 s2 hT hsz hk => ?_
    have ex := vals_at (xs := xs) (x := x) hu px
    have ey := vals_at (xs := ys) (x := y) hu2 py
    subst ex ey
    refine ⟨_, rfl, wpAny_letOwnedTupleGo_zip (s := { s with heap := h', toks := tk }) z' fun h'' z'' sb => ?_⟩
    have hT2 : h''.get? s.heap.objs.size = some { cls := .type "tuple", data := .seq #[x', y'] } := (sb.2 _ (Nat.ne_of_gt hzl)).trans hT
    have new : ObjOk X.prog X.w (upd H s.heap.objs.size (.tup [x, y])) h'' s.heap.objs.size (.tup [x, y]) :=
      ⟨by show 2 ≤ sizeLine; decide, [x', y'], .cons ru (.cons ru2 .nil), ⟨_, hT2, rfl, _, rfl⟩⟩
    have I1 : Inv X pins σ (upd H s.heap.objs.size (.tup [x, y])) { s with heap := h'', toks := tk } :=
      I.turnedNew (ch := [z, TI, TO, i1, i2]) (fun c o hb q => (sb.2 c (fun q' => hb (by simp [q']))).trans (hk c o (fun q' => hb (by simp [q'])) (fun q' => hb (by simp [q'])) (fun q' => hb (by simp [q'])) (fun q' => hb (by simp [q'])) q)) hf (Nat.le_refl _) new
    refine ⟨.ref s.heap.objs.size, _, I1, rfl, ⟨_, x, y, rfl, I.hok.fresh (Nat.le_refl _), rfl, fun l hl => by rw [Inv.sq_inj I hl hqx]; exact hx, fun l hl => by rw [Inv.sq_inj I hl hqy]; exact hy⟩, ⟨z'', ?_, ⟨x', y', ?_⟩, ?_, ?_⟩, fun c hcm => ?_⟩
    · exact (sb.2 _ S.TIz).trans (hk _ _ S.TIz S.TITO S.TIi1 S.TIi2 hTI)
    · exact (sb.2 _ S.TOz).trans TO'
    · exact s1.1.at_ fun o q => (sb.2 _ (Ne.symm S.zi1)).trans q
    · exact s2.1.at_ fun o q => (sb.2 _ (Ne.symm S.zi2)).trans q
    · rw [upd_ne (Nat.ne_of_lt (lt c hcm))]
      exact (hf c hcm).1
  done := by
    intro X hP hw hK hc i pins s σ H E I hf st hg
    subst hP hw hK
    obtain ⟨hz, hTI, ⟨x0, y0, hTO⟩, k1, k2⟩ := st
    obtain ⟨xs, ys, hqx, hqy, e1, e2, hend⟩ := hg
    obtain ⟨its, rv, p⟩ := Inv.sq I hqx
    obtain ⟨its2, rv2, p2⟩ := Inv.sq I hqy
    have l1 := rv.length
    have l2 := rv2.length
    have hh : X.A.in1.handled = none := I.ok.hd hc
    exact wpAny_pyNext_zipD2_end S (drawsK (A := X.A.in1) hh t1 i1 a h1 its.toArray) (drawsK (A := X.A.in1) hh t2 i2 b h2 its2.toArray) hz hTI hTO ⟨k1, p⟩ ⟨k2, p2⟩ (by simp; omega) (by simp; omega) (by simp; omega) fun h' tk hk =>
      ⟨rfl, I.turnedL (t' := tk) (ch := [z, TI, TO, i1, i2]) (fun c o hb q => hk c o (fun q' => hb (by simp [q'])) (fun q' => hb (by simp [q'])) (fun q' => hb (by simp [q'])) (fun q' => hb (by simp [q'])) q) hf⟩
  self := fun A i s Q E st h => wpAny_pyIter_zip st.1 h
def ItZ3 (K : PySem.W.Frag) (t1 t2 t3 : Bool) (a b c : Addr) : It :=
  ⟨fun i H => ∃ (xs ys zs : List V) (x y z : V), SqK t1 K H a xs ∧ SqK t2 K H b ys ∧ SqK t3 K H c zs ∧ xs[i]? = some x ∧ ys[i]? = some y ∧ zs[i]? = some z,
    fun i H v H' => ∃ T x y z, v = .ref T ∧ H T = none ∧ H' = upd H T (.tup [x, y, z]) ∧ (∀ xs, SqK t1 K H a xs → xs[i]? = some x) ∧ (∀ ys, SqK t2 K H b ys → ys[i]? = some y) ∧ ∀ zs, SqK t3 K H c zs → zs[i]? = some z,
    fun i H => ∃ xs ys zs : List V, SqK t1 K H a xs ∧ SqK t2 K H b ys ∧ SqK t3 K H c zs ∧ i ≤ xs.length ∧ i ≤ ys.length ∧ i ≤ zs.length ∧ (i = xs.length ∨ i = ys.length ∨ i = zs.length)⟩
theorem turnZ3 {P : Program} {w : World} {K : PySem.W.Frag} {elts : List Expr} {kk : Nat} {tpos : Pos} (t1 t2 t3 : Bool) {a b d z TI TO i1 i2 i3 : Addr} (S : ZipSep3 z TI TO i1 i2 i3 [i1, a] [i2, b] [i3, d]) (h1 : a ≠ i1) (h2 : b ≠ i2) (h3 : d ≠ i3) :
    Turn P w K (.Tuple elts kk tpos) (ItZ3 K t1 t2 t3 a b d) [z, TI, TO, i1, i2, i3] z (fun i h => IsZip h z TI TO .none ∧ IsTupOf3 h TI (.ref i1) (.ref i2) (.ref i3) ∧ (∃ x y v, IsTupOf3 h TO x y v) ∧ IsIt t1 h i1 a i ∧ IsIt t2 h i2 b i ∧ IsIt t3 h i3 d i) where
  mem := by simp
  obj := fun i h st c hc => by
    obtain ⟨hz, hTI, ⟨x, y, v, hTO⟩, k1, k2, k3⟩ := st
    have e' : c = z ∨ c = TI ∨ c = TO ∨ c = i1 ∨ c = i2 ∨ c = i3 := by simpa using hc
    rcases e' with q | q | q | q | q | q
    · rw [q]; exact ⟨_, hz, fun v q => nomatch q⟩
    · rw [q]; exact ⟨_, hTI, fun v q => nomatch q⟩
    · rw [q]; exact ⟨_, hTO, fun v q => nomatch q⟩
    · rw [q]; exact k1.obj
    · rw [q]; exact k2.obj
    · rw [q]; exact k3.obj
  keep := fun i h h' st k => by
    obtain ⟨hz, hTI, ⟨x, y, v, hTO⟩, k1, k2, k3⟩ := st
    exact ⟨k z (by simp) _ hz, k TI (by simp) _ hTI, ⟨x, y, v, k TO (by simp) _ hTO⟩, k1.at_ fun o q => k i1 (by simp) o q, k2.at_ fun o q => k i2 (by simp) o q, k3.at_ fun o q => k i3 (by simp) o q⟩
  item := by
    intro X hP hw hK hc i pins s σ H E I hf st hg
    subst hP hw hK
    obtain ⟨hz, hTI, ⟨x0, y0, v0, hTO⟩, k1, k2, k3⟩ := st
    obtain ⟨xs, ys, zs, x, y, v, hqx, hqy, hqz, hx, hy, hv⟩ := hg
    obtain ⟨its, rv, p⟩ := Inv.sq I hqx
    obtain ⟨its2, rv2, p2⟩ := Inv.sq I hqy
    obtain ⟨its3, rv3, p3⟩ := Inv.sq I hqz
    obtain ⟨u, hu, ru⟩ := rv.get hx
    obtain ⟨u2, hu2, ru2⟩ := rv2.get hy
    obtain ⟨u3, hu3, ru3⟩ := rv3.get hv
    have hh : X.A.in1.handled = none := I.ok.hd hc
    have l1 : i < its.toArray.size := by have := (List.getElem?_eq_some_iff.mp hu).1; simpa using this
    have l2 : i < its2.toArray.size := by have := (List.getElem?_eq_some_iff.mp hu2).1; simpa using this
    have l3 : i < its3.toArray.size := by have := (List.getElem?_eq_some_iff.mp hu3).1; simpa using this
    have hzl : z < s.heap.objs.size := Heap.lt_size hz
    have lt : ∀ c ∈ [z, TI, TO, i1, i2, i3], c < s.heap.objs.size := fun c hcm => by
      have e' : c = z ∨ c = TI ∨ c = TO ∨ c = i1 ∨ c = i2 ∨ c = i3 := by simpa using hcm
      rcases e' with q | q | q | q | q | q
      · rw [q]; exact hzl
      · rw [q]; exact Heap.lt_size hTI
      · rw [q]; exact Heap.lt_size hTO
      · rw [q]; obtain ⟨_, e1, _⟩ := k1.obj; exact Heap.lt_size e1
      · rw [q]; obtain ⟨_, e2, _⟩ := k2.obj; exact Heap.lt_size e2
      · rw [q]; obtain ⟨_, e3, _⟩ := k3.obj; exact Heap.lt_size e3
    refine wpAny_pyNext_zipD3_item S (drawsK (A := X.A.in1) hh t1 i1 a h1 its.toArray) (drawsK (A := X.A.in1) hh t2 i2 b h2 its2.toArray) (drawsK (A := X.A.in1) hh t3 i3 d h3 its3.toArray) hz hTI hTO ⟨k1, p⟩ ⟨k2, p2⟩ ⟨k3, p3⟩ l1 l2 l3 fun x' y' v' h' tk px py pv z' TO' s1 s2 s3 hT hsz hk => ?_
    have ex := vals_at (xs := xs) (x := x) hu px
    have ey := vals_at (xs := ys) (x := y) hu2 py
    have ev := vals_at (xs := zs) (x := v) hu3 pv
    subst ex ey ev
    refine ⟨_, rfl, wpAny_letOwnedTupleGo_zip (s := { s with heap := h', toks := tk }) z' fun h'' z'' sb => ?_⟩
    have hT2 : h''.get? s.heap.objs.size = some { cls := .type "tuple", data := .seq #[x', y', v'] } := (sb.2 _ (Nat.ne_of_gt hzl)).trans hT
    have new : ObjOk X.prog X.w (upd H s.heap.objs.size (.tup [x, y, v])) h'' s.heap.objs.size (.tup [x, y, v]) :=
      ⟨by show 3 ≤ sizeLine; decide, [x', y', v'], .cons ru (.cons ru2 (.cons ru3 .nil)), ⟨_, hT2, rfl, _, rfl⟩⟩
    have I1 : Inv X pins σ (upd H s.heap.objs.size (.tup [x, y, v])) { s with heap := h'', toks := tk } :=
      I.turnedNew (ch := [z, TI, TO, i1, i2, i3]) (fun c o hb q => (sb.2 c (fun q' => hb (by simp [q']))).trans (hk c o (fun q' => hb (by simp [q'])) (fun q' => hb (by simp [q'])) (fun q' => hb (by simp [q'])) (fun q' => hb (by simp [q'])) (fun q' => hb (by simp [q'])) q)) hf (Nat.le_refl _) new
    refine ⟨.ref s.heap.objs.size, _, I1, rfl, ⟨_, x, y, v, rfl, I.hok.fresh (Nat.le_refl _), rfl, fun l hl => by rw [Inv.sq_inj I hl hqx]; exact hx, fun l hl => by rw [Inv.sq_inj I hl hqy]; exact hy, fun l hl => by rw [Inv.sq_inj I hl hqz]; exact hv⟩, ⟨z'', ?_, ⟨x', y', v', ?_⟩, ?_, ?_, ?_⟩, fun c hcm => ?_⟩
    · exact (sb.2 _ S.TIz).trans (hk _ _ S.TIz S.TITO S.TIi1 S.TIi2 S.TIi3 hTI)
    · exact (sb.2 _ S.TOz).trans TO'
    · exact s1.1.at_ fun o q => (sb.2 _ (Ne.symm S.zi1)).trans q
    · exact s2.1.at_ fun o q => (sb.2 _ (Ne.symm S.zi2)).trans q
    · exact s3.1.at_ fun o q => (sb.2 _ (Ne.symm S.zi3)).trans q
    · rw [upd_ne (Nat.ne_of_lt (lt c hcm))]
      exact (hf c hcm).1
  done := by
    intro X hP hw hK hc i pins s σ H E I hf st hg
    subst hP hw hK
    obtain ⟨hz, hTI, ⟨x0, y0, v0, hTO⟩, k1, k2, k3⟩ := st
    obtain ⟨xs, ys, zs, hqx, hqy, hqz, e1, e2, e3, hend⟩ := hg
    obtain ⟨its, rv, p⟩ := Inv.sq I hqx
    obtain ⟨its2, rv2, p2⟩ := Inv.sq I hqy
    obtain ⟨its3, rv3, p3⟩ := Inv.sq I hqz
    have l1 := rv.length
    have l2 := rv2.length
    have l3 := rv3.length
    have hh : X.A.in1.handled = none := I.ok.hd hc
    exact wpAny_pyNext_zipD3_end S (drawsK (A := X.A.in1) hh t1 i1 a h1 its.toArray) (drawsK (A := X.A.in1) hh t2 i2 b h2 its2.toArray) (drawsK (A := X.A.in1) hh t3 i3 d h3 its3.toArray) hz hTI hTO ⟨k1, p⟩ ⟨k2, p2⟩ ⟨k3, p3⟩ (by simp; omega) (by simp; omega) (by simp; omega) (by simp; omega) fun h' tk hk =>
      ⟨rfl, I.turnedL (t' := tk) (ch := [z, TI, TO, i1, i2, i3]) (fun c o hb q => hk c o (fun q' => hb (by simp [q'])) (fun q' => hb (by simp [q'])) (fun q' => hb (by simp [q'])) (fun q' => hb (by simp [q'])) (fun q' => hb (by simp [q'])) q) hf⟩
  self := fun A i s Q E st h => wpAny_pyIter_zip st.1 h
/-! ### as what is walked -/
section
variable {K : PySem.W.Frag} {mg : Str → Option Value}
/-- a source stays what it is, as long as its list is held -/
theorem srcK_ok {ρ : List Addr} {H : Hp} {h : Hm} {w : Va} {v : V} {S : Src} (rh : RH K mg ρ H h) (r : RW K mg ρ H w v) (e : srcK h w = some S) :
    ∃ t a, v = .ref a ∧ heldOk S.held h ∧ ∀ ρ' H' h', Fut K ρ H ρ' H' → RH K mg ρ' H' h' → heldOk S.held h' → ∃ vs, SqK t K H' a vs ∧ RWs K mg ρ' H' S.items vs := by
  unfold srcK at e
  split at e
  · cases e
    obtain ⟨a, vs, rfl, s, r1⟩ := rw_tup r
    exact ⟨true, a, rfl, fun p hp => absurd hp (by simp), fun ρ' H' h' f _ _ => ⟨vs, f.tup _ _ s, r1.fut f⟩⟩
  · rename_i n
    obtain ⟨a, rfl, ea⟩ := rw_ref r
    split at e
    · rename_i ws g
      cases e
      refine ⟨false, a, rfl, fun p hp => by rw [List.mem_singleton.mp hp]; exact g, fun ρ' H' h' f rh' hd => ?_⟩
      exact held_seq ea (.inl rfl) f rh' (hd _ (List.mem_singleton.mpr rfl))
    · rename_i ws g
      cases e
      refine ⟨false, a, rfl, fun p hp => by rw [List.mem_singleton.mp hp]; exact g, fun ρ' H' h' f rh' hd => ?_⟩
      exact held_seq ea (.inr rfl) f rh' (hd _ (List.mem_singleton.mpr rfl))
    · cases e
  · cases e
theorem held_app {g g' : List (Nat × Ce)} {h : Hm} (x : heldOk (g ++ g') h) : heldOk g h ∧ heldOk g' h :=
  ⟨fun p hp => x p (List.mem_append_left _ hp), fun p hp => x p (List.mem_append_right _ hp)⟩
theorem zip3L_len : ∀ (xs ys zs : List Va), (zip3L xs ys zs).length = min (min xs.length ys.length) zs.length
  | [], ys, zs => by cases ys <;> simp [zip3L]
  | a :: r, [], zs => by simp [zip3L]
  | a :: r, b :: s, [] => by simp [zip3L]
  | a :: r, b :: s, c :: t => by simp [zip3L, zip3L_len r s t, Nat.succ_min_succ]
variable {X : Cx} {e e2 e3 : Expr} {p pos tpos : Pos} {elts : List Expr} {kk : Nat} {ms : Sg → Hm → Res (List Va)}
theorem fresh_of {pins : List (Addr × Obj)} {σ : L2.St} {H : Hp} {s : Shared} (I : Inv X pins σ H s) {l : List Addr} (hl : ∀ c ∈ l, s.heap.objs.size ≤ c) : ∀ c ∈ l, FpOk X pins H c := fun c hc => I.fpOk (hl c hc) (I.hok.fresh (hl c hc))
theorem s_enum (hg : Gl X "enumerate") (hm : X.mg "enumerate" = none) (ha : PA X [e] (tXs X.K X.mg ms)) (hs : starEach [e] X.env = [(false, eval e X.env)]) :
    PI X (.Tuple elts kk tpos) (.Call (.Name "enumerate" p) [e] [] pos) (tI X.K X.mg (iterR .enum ms)) := by
  refine ⟨fun pins s σ H R I q => ?_⟩
  obtain ⟨ρ, σw, h, S, h', rs, rh, e0, q⟩ := q
  obtain ⟨ws, e1, e2⟩ := iterR_ok e0
  refine Call_ (ld_blt I hg hm boot_enumerate (PyProof.Rows.callWith_type1 (thn (ha.run pos pins s σ H (fun vs H1 => ∃ ρ1, Fut X.K ρ H ρ1 H1 ∧ RH X.K X.mg ρ1 H1 h' ∧ RWs X.K X.mg ρ1 H1 ws vs) I ⟨ρ, σw, h, ws, h', rs, rh, e1, fun ρ1 H1 vs f1 rh1 rvs => ⟨ρ1, f1, rh1, rvs⟩⟩) fun us s1 ⟨vs, H1, I1, r1, ρ1, f1, rh1, rvs⟩ => ?_) hs rfl))
  replace e2 : enumV ws h' = some S := e2
  unfold enumV at e2
  split at e2
  · obtain ⟨T, g1, rfl⟩ := Option.map_eq_some_iff.mp e2
    obtain ⟨v, rfl, rv⟩ := rws_1 rvs
    obtain ⟨t, a, rfl, hd0, per⟩ := srcK_ok rh1 rv g1
    obtain ⟨vs0, sq0, _⟩ := per ρ1 H1 h' .refl rh1 hd0
    obtain ⟨u, rfl, z⟩ := Vals.one r1
    obtain rfl : u = Value.ref a := z
    obtain ⟨its, rv0, pl⟩ := Inv.sq I1 sq0
    have hlt := pl.lt
    refine call_enumB (beginsK t a its.toArray) pl fun h2 he ho hk => wpAny_pyIter_enum he ?_
    have I2 : Inv X pins σ H1 { s1 with heap := h2 } := I1.kept (t' := s1.toks) hk
    refine ⟨s1.heap.objs.size + 1, [s1.heap.objs.size + 1, s1.heap.objs.size], _, _, H1, rfl, I2, turnE t a (s1.heap.objs.size + 1) s1.heap.objs.size (Nat.succ_ne_self _) (Nat.ne_of_gt (Nat.lt_succ_of_lt hlt)) (Nat.ne_of_lt hlt), ⟨⟨.none, he⟩, itO_is ho⟩,
      fresh_of I1 (by intro c hc; have hc' : c = s1.heap.objs.size + 1 ∨ c = s1.heap.objs.size := by simpa using hc
                      rcases hc' with z | z <;> rw [z]
                      · exact Nat.le_add_right _ _
                      · exact Nat.le_refl _), q ρ1 H1 _ f1 rh1 fun ρ2 H2 h2 i f2 rh2 hd => ?_⟩
    obtain ⟨vs2, sq2, r2⟩ := per ρ2 H2 h2 f2 rh2 hd
    refine ⟨fun w hw => ?_, fun hl => ⟨vs2, sq2, by rw [← r2.len, hl]; exact (enumL_len _ _).symm⟩⟩
    obtain ⟨x, hx, rfl⟩ := enumL_get _ _ _ _ hw
    obtain ⟨y, hy, ry⟩ := r2.get hx
    refine ⟨⟨vs2, y, sq2, hy⟩, fun x' H' z => ?_⟩
    obtain ⟨T', x1, rfl, nT, rfl, q1⟩ := z
    have e3 := q1 vs2 sq2
    rw [hy] at e3
    cases e3
    obtain ⟨f3, rh3⟩ := rh2.aside (o := .tup [.int (i : Nat), y]) nT
    refine ⟨f3, rh3, .tup (SqT.of upd_same) (.cons ?_ (.cons (ry.fut f3) .nil))⟩
    rw [Nat.zero_add]
    exact .int _
  · cases e2
theorem s_zip2 (hg : Gl X "zip") (hm : X.mg "zip" = none) (ha : PA X [e, e2] (tXs X.K X.mg ms)) (hs : starEach [e, e2] X.env = (false, eval e X.env) :: starEach [e2] X.env) (hpl : (backTo pos (starEach [e2] X.env)).any (·.1) = false) :
    PI X (.Tuple elts kk tpos) (.Call (.Name "zip" p) [e, e2] [] pos) (tI X.K X.mg (iterR .zip2 ms)) := by
  refine ⟨fun pins s σ H R I q => ?_⟩
  obtain ⟨ρ, σw, h, S, h', rs, rh, e0, q⟩ := q
  obtain ⟨ws, e1, e2⟩ := iterR_ok e0
  refine Call_ (ld_blt I hg hm PyProof.Rows.boot_zip (PyProof.Rows.callWith_type1 (thn (ha.run pos pins s σ H (fun vs H1 => ∃ ρ1, Fut X.K ρ H ρ1 H1 ∧ RH X.K X.mg ρ1 H1 h' ∧ RWs X.K X.mg ρ1 H1 ws vs) I ⟨ρ, σw, h, ws, h', rs, rh, e1, fun ρ1 H1 vs f1 rh1 rvs => ⟨ρ1, f1, rh1, rvs⟩⟩) fun us s1 ⟨vs, H1, I1, r1, ρ1, f1, rh1, rvs⟩ => ?_) hs hpl))
  replace e2 : zip2V ws h' = some S := e2
  unfold zip2V at e2
  split at e2
  · split at e2
    · rename_i T1 T2 g1 g2
      cases e2
      obtain ⟨v1, v2, rfl, rv1, rv2⟩ := rws_2 rvs
      obtain ⟨t1, a, rfl, hd1, per1⟩ := srcK_ok rh1 rv1 g1
      obtain ⟨t2, b, rfl, hd2, per2⟩ := srcK_ok rh1 rv2 g2
      obtain ⟨_, sqa, _⟩ := per1 ρ1 H1 h' .refl rh1 hd1
      obtain ⟨_, sqb, _⟩ := per2 ρ1 H1 h' .refl rh1 hd2
      obtain ⟨u1, u2, rfl, z1, z2⟩ := Vals.two r1
      obtain rfl : u1 = Value.ref a := z1
      obtain rfl : u2 = Value.ref b := z2
      obtain ⟨its1, _, pl1⟩ := Inv.sq I1 sqa
      obtain ⟨its2, _, pl2⟩ := Inv.sq I1 sqb
      have l1 := pl1.lt
      have l2 := pl2.lt
      refine zip_begins2 (beginsK t1 a its1.toArray) (beginsK t2 b its2.toArray) pl1 pl2 fun h2 hz hTI hTO ho1 ho2 hsz hk => wpAny_pyIter_zip hz ?_
      have I2 : Inv X pins σ H1 { s1 with heap := h2 } := I1.kept (t' := s1.toks) hk
      refine ⟨s1.heap.objs.size + 4, [s1.heap.objs.size + 4, s1.heap.objs.size + 2, s1.heap.objs.size + 3, s1.heap.objs.size, s1.heap.objs.size + 1], _, _, H1, rfl, I2,
        turnZ2 t1 t2 (zip_sep2 (N := s1.heap.objs.size) (fp1 := [a]) (fp2 := [b]) (fun c hc => by rw [List.mem_singleton.mp hc]; exact l1) (fun c hc => by rw [List.mem_singleton.mp hc]; exact l2)) (Nat.ne_of_lt l1) (Nat.ne_of_lt (Nat.lt_succ_of_lt l2)),
        ⟨hz, hTI, ⟨_, _, hTO⟩, itO_is ho1, itO_is ho2⟩, fresh_of I1 (by
          intro c hc
          have hc' : c = s1.heap.objs.size + 4 ∨ c = s1.heap.objs.size + 2 ∨ c = s1.heap.objs.size + 3 ∨ c = s1.heap.objs.size ∨ c = s1.heap.objs.size + 1 := by simpa using hc
          rcases hc' with z | z | z | z | z <;> rw [z] <;> first | exact Nat.le_add_right _ _ | exact Nat.le_refl _), q ρ1 H1 _ f1 rh1 fun ρ2 H2 h2 i f2 rh2 hd => ?_⟩
      obtain ⟨da, db⟩ := held_app hd
      obtain ⟨va, sa, ra⟩ := per1 ρ2 H2 h2 f2 rh2 da
      obtain ⟨vb, sb, rb⟩ := per2 ρ2 H2 h2 f2 rh2 db
      refine ⟨fun w hw => ?_, fun hl => ?_⟩
      · obtain ⟨xa, xb, ga, gb, rfl⟩ := zipL_get _ _ _ _ hw
        obtain ⟨ya, hya, rya⟩ := ra.get ga
        obtain ⟨yb, hyb, ryb⟩ := rb.get gb
        refine ⟨⟨va, vb, ya, yb, sa, sb, hya, hyb⟩, fun x' H' y' => ?_⟩
        obtain ⟨T, x1, x2, rfl, nT, rfl, q1, q2⟩ := y'
        have e3 := q1 va sa
        have e4 := q2 vb sb
        rw [hya] at e3
        cases e3
        rw [hyb] at e4
        cases e4
        obtain ⟨f3, rh3⟩ := rh2.aside (o := .tup [ya, yb]) nT
        exact ⟨f3, rh3, .tup (SqT.of upd_same) (.cons (rya.fut f3) (.cons (ryb.fut f3) .nil))⟩
      · have hl' : i = (zipL T1.items T2.items).length := hl
        rw [zipL_len, ra.len, rb.len] at hl'
        exact ⟨va, vb, sa, sb, by omega, by omega, by omega⟩
    · cases e2
  · cases e2
theorem s_zip3 (hg : Gl X "zip") (hm : X.mg "zip" = none) (ha : PA X [e, e2, e3] (tXs X.K X.mg ms)) (hs : starEach [e, e2, e3] X.env = (false, eval e X.env) :: starEach [e2, e3] X.env) (hpl : (backTo pos (starEach [e2, e3] X.env)).any (·.1) = false) :
    PI X (.Tuple elts kk tpos) (.Call (.Name "zip" p) [e, e2, e3] [] pos) (tI X.K X.mg (iterR .zip3 ms)) := by
  refine ⟨fun pins s σ H R I q => ?_⟩
  obtain ⟨ρ, σw, h, S, h', rs, rh, e0, q⟩ := q
  obtain ⟨ws, e1, e2⟩ := iterR_ok e0
  refine Call_ (ld_blt I hg hm PyProof.Rows.boot_zip (PyProof.Rows.callWith_type1 (thn (ha.run pos pins s σ H (fun vs H1 => ∃ ρ1, Fut X.K ρ H ρ1 H1 ∧ RH X.K X.mg ρ1 H1 h' ∧ RWs X.K X.mg ρ1 H1 ws vs) I ⟨ρ, σw, h, ws, h', rs, rh, e1, fun ρ1 H1 vs f1 rh1 rvs => ⟨ρ1, f1, rh1, rvs⟩⟩) fun us s1 ⟨vs, H1, I1, r1, ρ1, f1, rh1, rvs⟩ => ?_) hs hpl))
  replace e2 : zip3V ws h' = some S := e2
  unfold zip3V at e2
  split at e2
  · split at e2
    · rename_i T1 T2 T3 g1 g2 g3
      cases e2
      obtain ⟨v1, v2, v3, rfl, rv1, rv2, rv3⟩ := rws_3 rvs
      obtain ⟨t1, a, rfl, hd1, per1⟩ := srcK_ok rh1 rv1 g1
      obtain ⟨t2, b, rfl, hd2, per2⟩ := srcK_ok rh1 rv2 g2
      obtain ⟨t3, d, rfl, hd3, per3⟩ := srcK_ok rh1 rv3 g3
      obtain ⟨_, sqa, _⟩ := per1 ρ1 H1 h' .refl rh1 hd1
      obtain ⟨_, sqb, _⟩ := per2 ρ1 H1 h' .refl rh1 hd2
      obtain ⟨_, sqd, _⟩ := per3 ρ1 H1 h' .refl rh1 hd3
      cases r1 with
      | cons z1 r1 =>
      obtain ⟨u2, u3, rfl, z2, z3⟩ := Vals.two r1
      cases z1
      obtain rfl : u2 = Value.ref b := z2
      obtain rfl : u3 = Value.ref d := z3
      obtain ⟨its1, _, pl1⟩ := Inv.sq I1 sqa
      obtain ⟨its2, _, pl2⟩ := Inv.sq I1 sqb
      obtain ⟨its3, _, pl3⟩ := Inv.sq I1 sqd
      have l1 := pl1.lt
      have l2 := pl2.lt
      have l3 := pl3.lt
      refine zip_begins3 (beginsK t1 a its1.toArray) (beginsK t2 b its2.toArray) (beginsK t3 d its3.toArray) pl1 pl2 pl3 fun h2 hz hTI hTO ho1 ho2 ho3 hsz hk => wpAny_pyIter_zip hz ?_
      have I2 : Inv X pins σ H1 { s1 with heap := h2 } := I1.kept (t' := s1.toks) hk
      refine ⟨s1.heap.objs.size + 5, [s1.heap.objs.size + 5, s1.heap.objs.size + 3, s1.heap.objs.size + 4, s1.heap.objs.size, s1.heap.objs.size + 1, s1.heap.objs.size + 2], _, _, H1, rfl, I2,
        turnZ3 t1 t2 t3 (zip_sep3 (N := s1.heap.objs.size) (fp1 := [a]) (fp2 := [b]) (fp3 := [d]) (fun c hc => by rw [List.mem_singleton.mp hc]; exact l1) (fun c hc => by rw [List.mem_singleton.mp hc]; exact l2) (fun c hc => by rw [List.mem_singleton.mp hc]; exact l3)) (Nat.ne_of_lt l1) (Nat.ne_of_lt (Nat.lt_succ_of_lt l2)) (Nat.ne_of_lt (Nat.lt_succ_of_lt (Nat.lt_succ_of_lt l3))),
        ⟨hz, hTI, ⟨_, _, _, hTO⟩, itO_is ho1, itO_is ho2, itO_is ho3⟩, fresh_of I1 (by
          intro c hc
          have hc' : c = s1.heap.objs.size + 5 ∨ c = s1.heap.objs.size + 3 ∨ c = s1.heap.objs.size + 4 ∨ c = s1.heap.objs.size ∨ c = s1.heap.objs.size + 1 ∨ c = s1.heap.objs.size + 2 := by simpa using hc
          rcases hc' with z | z | z | z | z | z <;> rw [z] <;> first | exact Nat.le_add_right _ _ | exact Nat.le_refl _), q ρ1 H1 _ f1 rh1 fun ρ2 H2 h2 i f2 rh2 hd => ?_⟩
      obtain ⟨da, hd'⟩ := held_app hd
      obtain ⟨db, dd⟩ := held_app hd'
      obtain ⟨va, sa, ra⟩ := per1 ρ2 H2 h2 f2 rh2 da
      obtain ⟨vb, sb, rb⟩ := per2 ρ2 H2 h2 f2 rh2 db
      obtain ⟨vd, sd, rd⟩ := per3 ρ2 H2 h2 f2 rh2 dd
      refine ⟨fun w hw => ?_, fun hl => ?_⟩
      · obtain ⟨xa, xb, xd, ga, gb, gd, rfl⟩ := zip3L_get _ _ _ _ _ hw
        obtain ⟨ya, hya, rya⟩ := ra.get ga
        obtain ⟨yb, hyb, ryb⟩ := rb.get gb
        obtain ⟨yd, hyd, ryd⟩ := rd.get gd
        refine ⟨⟨va, vb, vd, ya, yb, yd, sa, sb, sd, hya, hyb, hyd⟩, fun x' H' y' => ?_⟩
        obtain ⟨T, x1, x2, x3, rfl, nT, rfl, q1, q2, q3⟩ := y'
        have e3 := q1 va sa
        have e4 := q2 vb sb
        have e5 := q3 vd sd
        rw [hya] at e3
        cases e3
        rw [hyb] at e4
        cases e4
        rw [hyd] at e5
        cases e5
        obtain ⟨f3, rh3⟩ := rh2.aside (o := .tup [ya, yb, yd]) nT
        exact ⟨f3, rh3, .tup (SqT.of upd_same) (.cons (rya.fut f3) (.cons (ryb.fut f3) (.cons (ryd.fut f3) .nil)))⟩
      · have hl' : i = (zip3L T1.items T2.items T3.items).length := hl
        rw [zip3L_len, ra.len, rb.len, rd.len] at hl'
        exact ⟨va, vb, vd, sa, sb, sd, by omega, by omega, by omega, by omega⟩
    · cases e2
  · cases e2
end
end Vy
set_option maxHeartbeats 2000000
/-! slices with a step -/
namespace Vy
open PySem PySem.Spec PyProof.Rows L2
theorem stepT_rw {K : PySem.W.Frag} {mg : Str → Option Value} {ρ : List Addr} {H : Hp} {ws : List Va} {vs : List V} (r : RWs K mg ρ H ws vs) (lo hi : Option Int) (st : Int) : RWs K mg ρ H (stepT ws lo hi st) (stepT vs lo hi st) := by
  unfold stepT
  rw [r.len]
  generalize Builtin.Slice.slicePlaces _ _ _ = n
  generalize (Builtin.Slice.sliceAdjust lo hi st (vs.length : Int)).1 = a
  have key : ∀ l : List Nat, RWs K mg ρ H (l.filterMap fun (m : Nat) => ws[(a + (m : Int) * st).toNat]?) (l.filterMap fun (m : Nat) => vs[(a + (m : Int) * st).toNat]?) := by
    intro l
    induction l with
    | nil => exact .nil
    | cons m l ih =>
      rw [List.filterMap_cons, List.filterMap_cons]
      cases e : ws[(a + (m : Int) * st).toNat]? with
      | none =>
        have : vs[(a + (m : Int) * st).toNat]? = none := by
          rw [List.getElem?_eq_none_iff] at e ⊢
          rw [← r.len]
          exact e
        rw [this]
        exact ih
      | some w =>
        obtain ⟨v, ev, q⟩ := r.get e
        rw [ev]
        exact .cons q ih
  exact key _
theorem vals_step {xs : List V} {us : List Value} (r : Vals xs us) (lo hi : Option Int) (st : Int) : Vals (stepT xs lo hi st) (stepT us lo hi st) := by
  unfold stepT
  rw [r.length]
  generalize Builtin.Slice.slicePlaces _ _ _ = n
  generalize (Builtin.Slice.sliceAdjust lo hi st (us.length : Int)).1 = a
  have key : ∀ l : List Nat, Vals (l.filterMap fun (m : Nat) => xs[(a + (m : Int) * st).toNat]?) (l.filterMap fun (m : Nat) => us[(a + (m : Int) * st).toNat]?) := by
    intro l
    induction l with
    | nil => exact .nil
    | cons m l ih =>
      rw [List.filterMap_cons, List.filterMap_cons]
      cases e : xs[(a + (m : Int) * st).toNat]? with
      | none =>
        have : us[(a + (m : Int) * st).toNat]? = none := by
          rw [List.getElem?_eq_none_iff] at e ⊢
          rw [← r.length]
          exact e
        rw [this]
        exact ih
      | some w =>
        obtain ⟨v, ev, q⟩ := r.get e
        rw [ev]
        exact .cons q ih
  exact key _
section
variable {prog : Program} {w : World} {A : Around} {E : Value → Shared → Prop} {s : Shared}
theorem applied_step {sl : Addr} {vl vu vs : Value} {lo hi : Option Int} {st : Int} {n : Nat} {Q : Int × Int × Nat → Shared → Prop} (hs : s.heap.IsSliceOf sl vl vu vs) (pl : IsPart vl lo) (pu : IsPart vu hi) (ps : IsPart vs (some st)) (h0 : st ≠ 0)
    (h : Q ((Builtin.Slice.sliceAdjust lo hi st n).1, st, Builtin.Slice.slicePlaces (Builtin.Slice.sliceAdjust lo hi st n).1 (Builtin.Slice.sliceAdjust lo hi st n).2 st) s) :
    wpAny (model prog w) A (Builtin.Slice.sliceApplied (.ref sl) (pure (n : Int))) Q E s := by
  obtain ⟨os, hos, hcs, hds⟩ := id hs
  unfold Builtin.Slice.sliceApplied Builtin.Slice.sliceFields
  refine wpAny_bind (wpAny_bind (wpAny_field hos hds (x := vl) rfl (wpAny_bind (wpAny_field hos hds (x := vu) rfl (wpAny_bind (wpAny_field hos hds (x := vs) rfl (wpAny_pure ?_)))))))
  refine wpAny_bind (HT.slicePart_ ps ?_)
  have z : ((some st).getD 1 == 0) = false := by
    show (st == 0) = false
    rw [beq_eq_false_iff_ne]
    exact h0
  simp only [z, Bool.false_eq_true, if_false]
  exact wpAny_bind (HT.slicePart_ pl (wpAny_bind (HT.slicePart_ pu (wpAny_bind (wpAny_pure (wpAny_pure h))))))
theorem item_step {t sl : Addr} {items : Array Value} {vl vu vs : Value} {lo hi : Option Int} {st : Int} {Q : Value → Shared → Prop} (ht : IsTup s.heap t items) (hs : s.heap.IsSliceOf sl vl vu vs) (pl : IsPart vl lo) (pu : IsPart vu hi) (ps : IsPart vs (some st)) (h0 : st ≠ 0) (h1 : st ≠ 1)
    (h : Q (.ref s.heap.objs.size) { s with heap := s.heap.push { cls := .type "tuple", data := .seq (stepT items.toList lo hi st).toArray } }) (hsz : (stepT items.toList lo hi st).length ≤ sizeLine) : wpAny (model prog w) A (getItem (.ref t) (.ref sl)) Q E s := by
  have fits : sizeOk (.seq (stepT items.toList lo hi st).toArray) := by
    show (stepT items.toList lo hi st).toArray.size ≤ sizeLine
    rw [List.size_toArray]
    exact hsz
  obtain ⟨os, hos, hcs, hds⟩ := id hs
  have hTs : s.TypeIs (.ref sl) "slice" := ⟨os, hos, hcs⟩
  unfold getItem
  try with_reducible refine wpAny_holding ?_
  first | refine wpAny_bind (wpAny_pure ?_) | skip
  refine wpAny_bind (wpAny_sequenceKey ht.typeIs (by decide) ?_)
  refine wpAny_bind (wpAny_callSpecial?_slot (name := Str.ofString "__getitem__") ht.typeIs PyProof.Rows.slot_tuple_getitem (wpAny_call_entry PyProof.Rows.slot_tuple_getitem ht.typeIs PyProof.Rows.entry_tuple_getitem ?_ (PyProof.Rows.args_tuple_getitem _ _)))
  show wpAny _ _ (Builtin.Tuple.tupleItemsOf (.ref t) >>= _) _ _ s
  refine wpAny_bind (PyProof.Rows.tupleItemsOf_ ht ?_)
  refine wpAny_bind (wpAny_typeOf hTs ?_)
  rw [if_pos (by decide)]
  refine wpAny_bind (applied_step hs pl pu ps h0 ?_)
  have e1 : (st == 1) = false := by rw [beq_eq_false_iff_ne]; exact h1
  dsimp only
  rw [e1, Bool.and_false, Bool.false_and]
  simp only [Bool.false_eq_true, if_false]
  have pick : ((List.range (Builtin.Slice.slicePlaces (Builtin.Slice.sliceAdjust lo hi st (items.size : Int)).1 (Builtin.Slice.sliceAdjust lo hi st (items.size : Int)).2 st)).filterMap fun (m : Nat) => items[((Builtin.Slice.sliceAdjust lo hi st (items.size : Int)).1 + (m : Int) * st).toNat]?) = stepT items.toList lo hi st := by
    unfold stepT
    simp only [Array.length_toList, Array.getElem?_toList]
  rw [pick]
  first
    | exact wpAny_bind (m := Builtin.Tuple.tupleExact _) (wpAny_newObj_type (wpAny_pure ⟨_, rfl, wpAny_pure h⟩) fits)
    | exact wpAny_bind (m := Builtin.Tuple.tupleExact _) (wpAny_newObj_type (wpAny_bind (wpAny_pure (wpAny_pure ⟨_, rfl, wpAny_pure h⟩))) fits)
    | exact wpAny_bind (wpAny_bind (m := Builtin.Tuple.tupleExact _) (wpAny_newObj_type (wpAny_pure (wpAny_pure ⟨_, rfl, wpAny_pure h⟩)) fits))
    | exact wpAny_bind (wpAny_bind (m := Builtin.Tuple.tupleExact _) (wpAny_newObj_type (wpAny_pure ⟨_, rfl, wpAny_pure h⟩) fits))
end
section
variable {X : Cx} {e se : Expr} {lo hi : Option Expr} {ma ms : Sg → Hm → Res Va} {ml mu : Sg → Hm → Res (Option Int)} {p3 pos : Pos}
theorem s_step (ha : PE X e (tX X.K X.mg ma)) (hl : PO X lo (tOo X.K X.mg ml)) (hh : PO X hi (tOo X.K X.mg mu)) (hs : PE X se (tX X.K X.mg ms)) :
    PE X (.Subscript e (.Slice lo hi (some se) p3) pos) (tX X.K X.mg fun σ h => (ma σ h).bind fun x h1 => (ml σ h1).bind fun l h2 => (mu σ h2).bind fun u h3 => (ms σ h3).bind fun k h4 => match k with
      | .int i => stepV l u i x h4
      | _ => .bad) := by
  refine ⟨fun pins s σ H Q I q => ?_⟩
  obtain ⟨ρ, σw, h, w, h', rs, rh, e0, q⟩ := q
  obtain ⟨x, h1, e1, e0⟩ := bind_eq_ok e0
  obtain ⟨l, h2, e2, e0⟩ := bind_eq_ok e0
  obtain ⟨u, h3, e3, e0⟩ := bind_eq_ok e0
  obtain ⟨k, h4, e4, e0⟩ := bind_eq_ok e0
  split at e0
  case h_2 => cases e0
  rename_i st
  refine Subscript_ (thn (ha.run pins s σ H (fun v H1 => ∃ ρ1, Fut X.K ρ H ρ1 H1 ∧ RH X.K X.mg ρ1 H1 h1 ∧ RW X.K X.mg ρ1 H1 x v) I ⟨ρ, σw, h, x, h1, rs, rh, e1, fun ρ1 H1 v f1 rh1 rv1 => ⟨ρ1, f1, rh1, rv1⟩⟩) fun v s1 ⟨vx, H1, I1, r1, ρ1, f1, rh1, rv1⟩ => ?_)
  refine wpAny_Slice (thn (hl.run pins s1 σ H1 (fun o H2 => o = l ∧ ∃ ρ2, Fut X.K ρ1 H1 ρ2 H2 ∧ RH X.K X.mg ρ2 H2 h2) I1 ⟨ρ1, σw, h1, l, h2, rs.fut f1, rh1, e2, fun ρ2 H2 f2 rh2 => ⟨rfl, ρ2, f2, rh2⟩⟩) fun vl s2 ⟨o1, H2, I2, pl, eo1, ρ2, f2, rh2⟩ => ?_)
  subst eo1
  refine thn (hh.run pins s2 σ H2 (fun o H3 => o = u ∧ ∃ ρ3, Fut X.K ρ2 H2 ρ3 H3 ∧ RH X.K X.mg ρ3 H3 h3) I2 ⟨ρ2, σw, h2, u, h3, rs.fut (f1.trans f2), rh2, e3, fun ρ3 H3 f3 rh3 => ⟨rfl, ρ3, f3, rh3⟩⟩) fun vu s3 ⟨o2, H3, I3, pu, eo2, ρ3, f3, rh3⟩ => ?_
  subst eo2
  refine thn ((po_some hs).run pins s3 σ H3 (fun o H4 => o = some st ∧ ∃ ρ4, Fut X.K ρ3 H3 ρ4 H4 ∧ RH X.K X.mg ρ4 H4 h4) I3 ⟨ρ3, σw, h3, _, h4, rs.fut (f1.trans (f2.trans f3)), rh3, e4, fun ρ4 H4 v4 f4 rh4 rv4 => ⟨st, rw_int rv4, rfl, ρ4, f4, rh4⟩⟩) fun vs s4 ⟨o3, H4, I4, ps, eo3, ρ4, f4, rh4⟩ => ?_
  subst eo3
  have f14 := f2.trans (f3.trans f4)
  have I5 : Inv X pins σ H4 { s4 with heap := s4.heap.push { cls := .type "slice", data := .fields #[vl, vu, vs] } } := I4.kept (t' := s4.toks) fun b ob q => Heap.get?_push_of_some _ q
  have rv4 := rv1.fut f14
  have q4 : QV X.K X.mg ρ4 H4 h' w Q := fun ρ5 H5 v5 f5 rh5 rv5 => q ρ5 H5 v5 (f1.trans (f14.trans f5)) rh5 rv5
  unfold stepV at e0
  split at e0
  · rename_i ws
    split at e0
    · rename_i hc
      cases e0
      obtain ⟨a, xs, rfl, sq, rr⟩ := rw_tup rv4
      obtain rfl : v = Value.ref a := r1
      obtain ⟨its, r, ht, hz⟩ := I5.tuple sq
      have rT := vals_step r o1 o2 st
      have rW := stepT_rw rr o1 o2 st
      show wpAny (model X.prog X.w) X.A (subscriptTail e (.Slice lo hi (some se) p3) (.ref a) (.ref s4.heap.objs.size)) (EP X pins σ Q) X.xe { s4 with heap := s4.heap.push { cls := .type "slice", data := .fields #[vl, vu, vs] } }
      refine tail_any (ops := [.ref a, .ref s4.heap.objs.size]) ht.typeIs (PySem.F.slot_tuple_getitem.lookup) ?_ (by with_unfolding_all rfl)
      have hlen : (stepT its o1 o2 st).length ≤ sizeLine := by rw [← rT.length, ← rW.len]; exact hc.2.2
      refine item_step ht (Heap.IsSliceOf.new _ vl vu vs) pl pu ps hc.1 hc.2.1 ?_ hlen
      refine ⟨.ref _, _, I5.laid (t' := s4.toks) (o := .tup (stepT xs o1 o2 st)) (fun b ob q => Heap.get?_push_of_some _ q) (Nat.le_refl _) ?_, rfl, QV.tup q4 rh4 rW (I5.hok.fresh (Nat.le_refl _))⟩
      exact ⟨by rw [← rW.len]; exact hc.2.2, _, rT, IsTup.new _ _⟩
    · cases e0
  · split at e0
    · rename_i ws hw
      split at e0
      · rename_i hc
        obtain ⟨hz0, rfl, rfl⟩ := newL_ok e0
        obtain ⟨h01, h02, h03⟩ := hc
        subst h01 h02 h03
        obtain ⟨a, rfl, ea⟩ := rw_ref rv4
        obtain rfl : v = Value.ref a := r1
        obtain ⟨xs, sq, rr⟩ := rh4.seq hw ea
        obtain ⟨its, r, ht, hz⟩ := I5.list sq
        have hlen := r.length
        show wpAny (model X.prog X.w) X.A (subscriptTail e (.Slice lo hi (some se) p3) (.ref a) (.ref s4.heap.objs.size)) (EP X pins σ Q) X.xe { s4 with heap := s4.heap.push { cls := .type "slice", data := .fields #[vl, vu, vs] } }
        refine tail_any (ops := [.ref a, .ref s4.heap.objs.size]) ht.isList.typeIs (PySem.slot_list_getitem.lookup) ?_ (by with_unfolding_all rfl)
        refine wpAny_getItem_list_slice ht.isList (Heap.IsSliceOf.new _ vl vu vs) pl pu ps (by decide) ?_ (by rw [List.size_toArray]; omega)
        rw [PySem.W.krv_pick]
        refine ⟨.ref _, _, I5.laid (t' := s4.toks) (o := .lst xs.reverse) (fun b ob q => Heap.get?_push_of_some _ q) (Nat.le_refl _) ?_, rfl, QV.lst q4 rh4 rr.reverse (I5.hok.fresh (Nat.le_refl _))⟩
        exact ⟨by rw [List.length_reverse]; exact hz, _, 0, r.reverse, Heap.get?_push_size _ rfl⟩
      · cases e0
    · cases e0
  · cases e0
end
end Vy
set_option maxHeartbeats 2000000
/-! a dict whose keys are pairs of ints, by a comprehension; sorted of it -/
namespace Vy
open PySem PySem.Spec PyProof.Rows L2
/-! ### the dict -/
abbrev PL := List ((Int × Int) × Addr)
def pkey (p : Int × Int) : List Int := [p.1, p.2]
theorem pkey_inj {p q : Int × Int} (h : pkey p = pkey q) : p = q := by
  unfold pkey at h
  injection h with h1 h2
  injection h2 with h2 _
  exact Prod.ext h1 h2
def ents (L : PL) : List (List Int × Addr × Value) := L.map fun q => (pkey q.1, q.2, .bool true)
def PdAt (P : Program) (w : World) (D : Addr) (L : PL) (h : Heap) : Prop := ∃ o es ep, h.get? D = some o ∧ o.ExactDict ∧ o.data = .dict es ep ∧ es.toList = (ents L).map (entryOfKey (tupleKind (intKind P w)))
def PdO (P : Program) (w : World) (D : Addr) (L : PL) : HO := .ext (PdAt P w D L)
def putP (L : PL) (k : Int × Int) (a : Addr) : PL := if k ∈ L.map (·.1) then L else L ++ [(k, a)]
theorem ents_keys (L : PL) : (ents L).map (·.1) = (L.map (·.1)).map pkey := by
  unfold ents
  rw [List.map_map, List.map_map]
  rfl
theorem ents_nodup {L : PL} (h : (L.map (·.1)).Nodup) : ((ents L).map (·.1)).Nodup := by
  rw [ents_keys]
  unfold List.Nodup at h ⊢
  rw [List.pairwise_map]
  exact h.imp fun {a b} n e => n (pkey_inj e)
theorem stored_ents {L : PL} (h : (L.map (·.1)).Nodup) (k : Int × Int) (a : Addr) : storedH (ents L) (pkey k) a (.bool true) = ents (putP L k a) := by
  unfold putP
  by_cases hk : k ∈ L.map (·.1)
  · rw [if_pos hk]
    obtain ⟨q, hq, e⟩ := List.mem_map.mp hk
    obtain ⟨i, hi, ei⟩ := List.mem_iff_getElem.mp hq
    have g : (ents L)[i]? = some (pkey k, q.2, .bool true) := by
      unfold ents
      rw [List.getElem?_map, List.getElem?_eq_getElem hi, ei, ← e]
      rfl
    rw [storedH_old (atKey_of_get (ents_nodup h) g)]
    have fix : ∀ x ∈ ents L, putAt (pkey k) (.bool true) x = x := fun x hx => by
      obtain ⟨q, _, rfl⟩ := List.mem_map.mp hx
      unfold putAt
      split <;> rfl
    exact (List.map_congr_left fix).trans (List.map_id' _)
  · rw [if_neg hk]
    have no : atKey (ents L) (pkey k) = none := by
      refine atKey_none_of_get fun j p e => hk ?_
      have m := List.mem_of_getElem? e
      obtain ⟨q, hq, e2⟩ := List.mem_map.mp m
      have e3 : pkey q.1 = pkey k := congrArg Prod.fst e2
      rw [← pkey_inj e3]
      exact List.mem_map.mpr ⟨q, hq, rfl⟩
    rw [storedH_new no]
    unfold ents
    rw [List.map_append]
    rfl
section
variable {X : Cx} {pins : List (Addr × Obj)} {σ : L2.St} {H : Hp} {s : Shared} {D : Addr} {L : PL}
theorem pd_new {P : Program} {w : World} {H' : Hp} {h' : Heap} (p : PdAt P w D L h') : ObjOk P w H' h' D (PdO P w D L) := by
  obtain ⟨o, es, ep, ho, r⟩ := id p
  refine ⟨p, ⟨o, ho⟩, fun h1 h2 p1 k => ?_⟩
  obtain ⟨o1, es1, ep1, ho1, r1⟩ := p1
  exact ⟨o1, es1, ep1, k o1 ho1, r1⟩
theorem key_at (I : Inv X pins σ H s) {a : Addr} {i j : Int} (q : SqT X.K H a [.int i, .int j]) : IsTupleKey (intKind X.prog X.w) s.heap (pkey (i, j)) a := by
  obtain ⟨its, r, p, _⟩ := I.tuple q
  obtain ⟨o, ho, hc, n, hd⟩ := p
  exact ⟨o, its.toArray, n, ho, hc, hd, items_of_vals (k := [i, j]) r⟩
def KeysAt (K : PySem.W.Frag) (H : Hp) (L : PL) : Prop := ∀ q ∈ L, SqT K H q.2 [.int q.1.1, .int q.1.2]
theorem pd_at (I : Inv X pins σ H s) (hD : H D = some (PdO X.prog X.w D L)) : PdAt X.prog X.w D L s.heap := (I.hok D _ hD).1
theorem pd_set {E : Value → Shared → Prop} {a : Addr} {i j : Int} {Q : Unit → Shared → Prop} (I : Inv X pins σ H s) (hD : H D = some (PdO X.prog X.w D L)) (hz : L.length < sizeLine) (ks : KeysAt X.K H L) (nd : (L.map (·.1)).Nodup)
    (sq : SqT X.K H a [.int i, .int j]) (hu : X.A.units < cLine) (h : ∀ s', Inv X pins σ (upd H D (PdO X.prog X.w D (putP L (i, j) a))) s' → Q () s') : wpAny (model X.prog X.w) X.A (dictSet D (.ref a) (.bool true)) Q E s := by
  obtain ⟨o, es, ep, ho, hx, hd, he⟩ := pd_at I hD
  have dh : s.heap.DictOfH (tupleKind (intKind X.prog X.w)) D (ents L) := ⟨o, es, ep, ho, hx, hd, he, fun x hx => by
    obtain ⟨q, hq, rfl⟩ := List.mem_map.mp hx
    exact key_at I (ks q hq), ents_nodup nd⟩
  refine wpAny_dictSet_heap (knd := tupleKind (intKind X.prog X.w)) (k := pkey (i, j)) hu (key_at I sq) dh (fun h' dd sb => h _ ?_) (by unfold ents; rw [List.length_map]; exact Nat.le_of_lt hz)
  rw [stored_ents nd] at dd
  obtain ⟨o', es', ep', ho', hx', hd', he', _, _⟩ := dd
  exact d_write I (by rw [hD]; exact True.intro) sb ⟨o', ho'⟩ (pd_new ⟨o', es', ep', ho', hx', hd', he'⟩)
theorem pd_lay (I : Inv X pins σ H s) : Inv X pins σ (upd H s.heap.objs.size (PdO X.prog X.w s.heap.objs.size [])) { s with heap := s.heap.push { cls := .type "dict", data := .dict #[] } } :=
  I.laid (a := s.heap.objs.size) (t' := s.toks) (fun _ _ q => Heap.get?_push_of_some _ q) (Nat.le_refl _) (pd_new ⟨_, #[], 0, Heap.get?_push_size _ rfl, ⟨rfl, rfl, rfl⟩, rfl, rfl⟩)
end
/-! ### {key: True for target in iter}, the keys pairs of ints -/
section
variable {X : Cx}
/-- what is wanted of the block: Q by the dict's place, its entries, the heap -/
def tPc (K : PySem.W.Frag) (P : Program) (w : World) (wi : TI) (g : TG) (tk : TE) (vs : List Nat) (σ : L2.St) (H : Hp) (Q : Addr → PL → Hp → Prop) : Prop := wi σ H fun J H1 => ∀ D, H1 D = none → ∃ W : Nat → Nat → Hp → Prop, (∃ m, W 0 m (upd H1 D (PdO P w D []))) ∧ ∀ i m H, W i m H →
  (J.stop i H ∧ ∃ L, H D = some (PdO P w D L) ∧ Q D L H) ∨ (J.go i H ∧ ∃ Nx : Hp → Prop, (∀ H', Nx H' → ∃ m', m' < m ∧ W (i + 1) m' H') ∧ ∀ x H', J.yld i H x H' → g x (L2.wipe σ vs) H' fun σ2 H2 => L2.wipe σ2 vs = L2.wipe σ vs ∧
    tk σ2 H2 fun y H4 => ∃ L a i j, y = .ref a ∧ SqT K H4 a [.int i, .int j] ∧ H4 D = some (PdO P w D L) ∧ KeysAt K H4 L ∧ (L.map (·.1)).Nodup ∧ L.length < sizeLine ∧ Nx (upd H4 D (PdO P w D (putP L (i, j) a))))
/-- the turns of the block, over an iterator that has come -/
theorem pc_turns {s3 : Shared} {H3 : Hp} {scope : Scope} {ce : Env} {fp : List Addr} {vs : List Nat} {σ : L2.St} {kx vx tg iter : Expr} {pos : Pos} {it D : Addr} {tn : Nat → Heap → Prop} {J : It} {g : TG} {tk : TE} {R : Result → Shared → Prop} {Q : PL → Hp → Prop} {W : Nat → Nat → Hp → Prop}
    (hc : X.calm = true) (hu : X.A.units < cLine) (T : Turn X.prog X.w X.K tg J fp it tn) (pg : PG (X.blk s3 H3 scope ce fp) tg g) (pk : PE (X.blk s3 H3 scope ce fp) kx tk) (pv : PE (X.blk s3 H3 scope ce fp) vx (tC (.bl true)))
    (turn : ∀ i m H, W i m H → (J.stop i H ∧ ∃ L, H D = some (PdO X.prog X.w D L) ∧ Q L H) ∨ (J.go i H ∧ ∃ Nx : Hp → Prop, (∀ H', Nx H' → ∃ m', m' < m ∧ W (i + 1) m' H') ∧ ∀ x H', J.yld i H x H' → g x (L2.wipe σ vs) H' fun σ2 H2 => L2.wipe σ2 vs = L2.wipe σ vs ∧
      tk σ2 H2 fun y H4 => ∃ L a i j, y = .ref a ∧ SqT X.K H4 a [.int i, .int j] ∧ H4 D = some (PdO X.prog X.w D L) ∧ KeysAt X.K H4 L ∧ (L.map (·.1)).Nodup ∧ L.length < sizeLine ∧ Nx (upd H4 D (PdO X.prog X.w D (putP L (i, j) a)))))
    (fin : ∀ s' H' L, Inv (X.blk s3 H3 scope ce fp) [] (L2.wipe σ vs) H' s' → H' D = some (PdO X.prog X.w D L) → Q L H' → R (.ok .next) s') {s4 : Shared} {H4 : Hp} {m0 : Nat} (I4 : Inv (X.blk s3 H3 scope ce fp) [] (L2.wipe σ vs) H4 s4) (st4 : tn 0 s4.heap) (n4 : ∀ b ∈ fp, H4 b = none) (w4 : W 0 m0 H4) :
    codeAny (model X.prog X.w) X.A (.compLoop (.DictComp kx vx [⟨tg, iter, [], 0⟩] scope pos) 0 (.ref it) (.ref D) ce) R s4 := by
  have keepFp : ∀ {σ' : L2.St} {H' : Hp} {s' : Shared}, Inv (X.blk s3 H3 scope ce fp) [] σ' H' s' → (∀ b ∈ fp, H' b = none) → ∀ b ∈ fp, FpOk (X.blk s3 H3 scope ce fp) [] H' b := fun {σ' H' s'} I' hn b hb =>
    ⟨hn b hb, (I'.ok.exf b hb).1, I'.ok.exfs b hb, .inl hb, fun x c e => (I'.ok.exf b hb).2 x c e, fun p hp => absurd (show p ∈ ([] : List (Addr × Obj)) ++ [] from hp) (by simp)⟩
  refine compLoop_anyD (fun n s' => ∃ i H', Inv (X.blk s3 H3 scope ce fp) [] (L2.wipe σ vs) H' s' ∧ tn i s'.heap ∧ (∀ b ∈ fp, H' b = none) ∧ W i n H') ?_ m0 ⟨0, H4, I4, st4, n4, w4⟩
  rintro n s5 ⟨i, H5, I5, st5, n5, w5⟩
  rcases turn i n H5 w5 with ⟨stop, L, hL, qq⟩ | ⟨go, Nx, hNx, step⟩
  · refine thnF (T.done (X.blk s3 H3 scope ce fp) rfl rfl rfl hc i [] s5 _ H5 (fun _ _ => False) I5 (keepFp I5 n5) st5 stop) fun r s6 ⟨hr, I6⟩ => ?_
    subst hr
    exact fin s6 H5 L I6 hL qq
  · refine thnF (T.item (X.blk s3 H3 scope ce fp) rfl rfl rfl hc i [] s5 _ H5 (fun _ _ => False) I5 (keepFp I5 n5) st5 go) fun r s6 ⟨u, hr, h6⟩ => ?_
    subst hr
    refine thnF h6 fun _ s7 ⟨x, H7, I7, r7, y7, st7, n7⟩ => ?_
    refine thnF (pg.run _ s7 _ H7 x u _ (I7.pinned (keepFp I7 n7) (T.obj _ _ st7)) r7 (step x H7 y7)) fun _ s8 ⟨σ8, H8, I8, hw8, q8⟩ => ?_
    refine thnF ((pts_nil (X := X.blk s3 H3 scope ce fp)).run _ s8 σ8 H8 (fun b H9 => b = true ∧ H9 = H8) I8 ⟨rfl, rfl⟩) fun b s9 ⟨H9, I9, eb, eh⟩ => ?_
    subst eb eh
    rw [if_pos rfl]
    refine thnF (pk.run _ s9 σ8 H9 _ I9 q8) fun z s10 ⟨yk, H10, I10, r10, q10⟩ => ?_
    obtain ⟨L, a, ci, cj, rfl, sq, hD, ks, nd, hz, nx⟩ := q10
    refine thnF (pv.run _ s10 σ8 H10 (fun v H11 => v = .bl true ∧ H11 = H10) I10 ⟨rfl, rfl⟩) fun z2 s11 ⟨yv, H11, I11, r11, ev, eh⟩ => ?_
    subst ev eh
    obtain rfl : z = Value.ref a := r10
    obtain rfl : z2 = Value.bool true := r11
    refine pd_set (X := X.blk s3 H3 scope ce fp) I11 hD hz ks nd sq hu fun s12 I12 => ?_
    -- the turn is over: the block's own names are forgotten again
    obtain ⟨m', hm, w'⟩ := hNx _ nx
    have pin' : ∀ b ∈ fp, ∀ o, s7.heap.get? b = some o → s12.heap.get? b = some o ∧ upd H11 D (PdO X.prog X.w D (putP L (ci, cj) a)) b = none := fun b hb o e =>
      let z := I12.pin (b, o) (List.mem_append_right _ (List.mem_append_right _ (mem_pinsAt hb e)))
      ⟨z.1, z.2.1⟩
    refine ⟨m', hm, i + 1, _, (I12.unpinned (pins := [])).weak (by rw [← hw8, L2.wipe_length]) (fun j v e => ?_), T.keep _ _ _ st7 fun b hb o e => (pin' b hb o e).1, fun b hb => ?_, w'⟩
    · rw [← hw8] at e
      exact (wipe_some e).1
    · obtain ⟨o, e, _⟩ := T.obj _ _ st7 b hb
      exact (pin' b hb o e).2
theorem pc_run {pins : List (Addr × Obj)} {s : Shared} {σ : L2.St} {H : Hp} {Q : Addr → PL → Hp → Prop} {kx vx tg iter : Expr} {scope : Scope} {own : List (Str × Nat)} {pos : Pos} {wi : TI} {g : TG} {tk : TE} {Qf : Value → Shared → Prop}
    (hc : X.calm = true) (hu : X.A.units < cLine) (hN : X.N.Nodup) (I : Inv X pins σ H s) (hi : PI X tg iter wi) (ok : BlkOk X.N X.env.scope scope own)
    (hg : ∀ (s : Shared) (H : Hp) (C : Addr) (cl : List (Str × Addr)) (fp : List Addr), PG (X.blk s H scope (compEnvC scope cl C X.env) fp) tg g)
    (hk : ∀ (s : Shared) (H : Hp) (C : Addr) (cl : List (Str × Addr)) (fp : List Addr), PE (X.blk s H scope (compEnvC scope cl C X.env) fp) kx tk)
    (hv : ∀ (s : Shared) (H : Hp) (C : Addr) (cl : List (Str × Addr)) (fp : List Addr), PE (X.blk s H scope (compEnvC scope cl C X.env) fp) vx (tC (.bl true))) (hs : ∀ x, foldedSetIterable iter X.env x = pure x)
    (h : tPc X.K X.prog X.w wi g tk (own.map (·.2)) σ H Q) (hR : ∀ D L s' H', (D == sysModules) = false → Inv X pins σ H' s' → H' D = some (PdO X.prog X.w D L) → Q D L H' → Qf (.ref D) s') :
    wpAny (model X.prog X.w) X.A (eval (.DictComp kx vx [⟨tg, iter, [], 0⟩] scope pos) X.env) Qf X.xe s := by
  have hfree : ∀ y ∈ scope.names, y.2 = .free → ∃ c, X.env.cells.lookup y.1 = some c := fun y hy e => (ok.free y hy e).elim (fun k => I.ok.has _ (.inl k)) fun k => I.ok.has _ (.inr k)
  rw [arm_eval_DictComp]
  refine wpAny_comprehension_free (use := none) rfl hs (closure_ok hfree) ok.kind (fun y hy e => by rw [ok.uniq y hy, e]) (thn (hi.run pins s σ H _ I h) fun xv s1 hx => thn hx fun itv s2 h2 => ?_)
  obtain ⟨it, fp, tn, J, H2, e, I2, T, st2, f2, q⟩ := h2
  subst e
  refine wpAny_newObj_type (newEnv_comp ?_)
  have hDn : H2 s2.heap.objs.size = none := I2.hok.fresh (Nat.le_refl _)
  have hDs : (s2.heap.objs.size == sysModules) = false := beq_eq_false_iff_ne.mpr (Nat.ne_of_gt I2.big)
  obtain ⟨W, ⟨m0, w0⟩, turn⟩ := q _ hDn
  have I3 := pd_lay I2
  generalize hD : s2.heap.objs.size = D at *
  generalize hs3 : ({ s2 with heap := s2.heap.push { cls := .type "dict", data := .dict #[] } } : Shared) = s3 at I3
  have h3 : s3.heap = s2.heap.push { cls := .type "dict", data := .dict #[] } := by rw [← hs3]
  have small : ∀ b ∈ fp, b < s2.heap.objs.size := fun b hb => by
    obtain ⟨o, e, _⟩ := T.obj _ _ st2 b hb
    exact Heap.lt_size e
  have f3 : ∀ b ∈ fp, FpOk X pins (upd H2 D (PdO X.prog X.w D [])) b ∧ b < s3.heap.objs.size := fun b hb => by
    have hlt := small b hb
    refine ⟨⟨?_, (f2 b hb).2⟩, by rw [h3, Heap.size_push]; exact Nat.lt_succ_of_lt hlt⟩
    rw [upd_ne (by rw [← hD]; exact Nat.ne_of_lt hlt)]
    exact (f2 b hb).1
  have I4 := block_start I3 ok hN f3
  have pg := hg s3 (upd H2 D (PdO X.prog X.w D [])) s3.heap.objs.size (cellsFrom (s3.heap.objs.size + 1) scope.names (cloFrom X.env.cells scope.names [])) fp
  have pk := hk s3 (upd H2 D (PdO X.prog X.w D [])) s3.heap.objs.size (cellsFrom (s3.heap.objs.size + 1) scope.names (cloFrom X.env.cells scope.names [])) fp
  have pv := hv s3 (upd H2 D (PdO X.prog X.w D [])) s3.heap.objs.size (cellsFrom (s3.heap.objs.size + 1) scope.names (cloFrom X.env.cells scope.names [])) fp
  have st3 : tn 0 s3.heap := T.keep _ _ _ st2 fun b _ o e => by rw [h3]; exact Heap.get?_push_of_some _ e
  show codeAny _ _ (.compStart (.DictComp kx vx [⟨tg, iter, [], 0⟩] scope pos) 0 (.ref it) (.ref D) (compEnvC scope (cellsFrom (s3.heap.objs.size + 1) scope.names (cloFrom X.env.cells scope.names [])) s3.heap.objs.size X.env))
    (compPost (model X.prog X.w) X.A X.xe none Qf (.ref D) s3.heap.objs.size) { s3 with heap := pushCells (s3.heap.push { cls := .type "dict", data := .dict #[] }) scope.names }
  have st4 : tn 0 (pushCells (s3.heap.push { cls := .type "dict", data := .dict #[] }) scope.names) := T.keep _ _ _ st3 fun b _ o e => pushCells_keeps _ _ _ _ (Heap.get?_push_of_some _ e)
  have loop := pc_turns (pos := pos) (iter := iter) (Q := Q D) (R := compPost (model X.prog X.w) X.A X.xe none Qf (.ref D) s3.heap.objs.size) hc hu T pg pk pv turn (fun s6 H5 L I6 hL qq => ?_) I4 st4 (fun b hb => (f3 b hb).1.1) w0
  · exact codeAny_compStart_dict loop (T.self X.A 0 _ _ _ st4 loop)
  · have I7 : Inv X pins σ H5 s6 := I3.call' (ch := fp) I6.os I6.base I6.hok I6.bare fun b hb => ⟨(f3 b hb).1.2.2.2.1, (f3 b hb).1.2.1, (f3 b hb).1.2.2.2.2.1, (f3 b hb).1.2.2.2.2.2⟩
    have nC : H5 s3.heap.objs.size = none := I6.free
    obtain ⟨m, hn, _⟩ := I6.loc
    obtain ⟨f0, f1, f2, f3, f4, f5⟩ := I3.fpOk (Nat.le_refl _) nC
    exact ⟨m, hn, fun h'' sb => hR D L _ H5 hDs (I7.turned (t' := s6.toks) (fun b o hb e => (sb.2 b hb).trans e) f0 f1 f3 f4 f5) hL qq⟩
end
/-! ### sorted of it -/
section
variable {X : Cx} {pins : List (Addr × Obj)} {σ : L2.St} {H : Hp} {s : Shared} {D : Addr} {L : PL}
theorem ltPr_lex (p q : Int × Int) : SrtO.lexB p q = ltPr p q := by
  rw [Bool.eq_iff_iff, SrtO.lexB_iff]
  unfold ltPr
  rw [decide_eq_true_eq]
/-- the pair that stands at an address of the dict's keys -/
def pairAt (L : PL) (v : Value) : Int × Int := ((L.find? fun q => v == Value.ref q.2).map (·.1)).getD (0, 0)
theorem pairAt_of (I : Inv X pins σ H s) (ks : KeysAt X.K H L) {q : (Int × Int) × Addr} (hq : q ∈ L) : pairAt L (.ref q.2) = q.1 := by
  unfold pairAt
  cases e : L.find? (fun p => Value.ref q.2 == Value.ref p.2) with
  | none =>
    have := List.find?_eq_none.mp e q hq
    simp at this
  | some p =>
    have h1 := List.find?_some e
    have h2 := List.mem_of_find?_eq_some e
    have h3 : q.2 = p.2 := by
      have := eq_of_beq h1
      injection this
    have k1 := key_at I (ks q hq)
    have k2 := key_at I (ks p h2)
    rw [h3] at k1
    show p.1 = q.1
    exact pkey_inj (k2.inj k1)
theorem pairs_is (I : Inv X pins σ H s) {a : Addr} {i j : Int} (q : SqT X.K H a [.int i, .int j]) : Srt.IsPair s.heap (.ref a) i j := by
  obtain ⟨its, r, p, _⟩ := I.tuple q
  obtain ⟨o, ho, hc, n, hd⟩ := p
  obtain ⟨u, v, rfl, z1, z2⟩ := Vals.two r
  obtain ⟨t1, rfl⟩ := z1
  obtain ⟨t2, rfl⟩ := z2
  exact ⟨a, o, t1, t2, n, rfl, ho, hc, hd⟩
theorem pd_sorted {Q : VK} (hc : X.calm = true) (I : Inv X pins σ H s) (hDs : (D == sysModules) = false) (hD : H D = some (PdO X.prog X.w D L)) (ks : KeysAt X.K H L) (hz : L.length ≤ sizeLine)
    (q : ∀ out : List Addr, out.length = L.length → (out.map fun a => pairAt L (.ref a)) = sortP (L.map (·.1)) → (∀ a ∈ out, SqT X.K H a [.int (pairAt L (.ref a)).1, .int (pairAt L (.ref a)).2]) → ∀ p, H p = none → Q (.ref p) (upd H p (.lst (out.map V.ref)))) :
    wpAny (model X.prog X.w) X.A (call (.builtin "sorted") [.ref D]) (EP X pins σ Q) X.xe s := by
  obtain ⟨o, es, ep, ho, hx, hd, he⟩ := pd_at I hD
  have l1 : es.size = L.length := by
    have := size_of_entries he
    rw [this]
    unfold ents
    rw [List.length_map]
  refine Calls.call_function_entry PyProof.Rows.kind_sorted PyProof.Rows.plain_sorted PyProof.Rows.entry_sorted (PyProof.Rows.args_sorted1 _) ?_
  unfold Builtin.«sorted»
  refine wpAny_bind (m := checkCount "sorted" 1 1 _) (wpAny_pure ?_)
  refine wpAny_bind (PySem.W.kdu_collect (A := X.A.in1) (kdl_raw hDs hx hd) (I.ok.hd hc) ho (by omega) fun h' tk acc hk hacc => ?_)
  have ea : acc.toList = L.map fun x => Value.ref x.2 := by
    have hl : acc.toList.length = L.length := by rw [Array.length_toList, hacc.1]; exact l1
    apply List.ext_getElem?
    intro j
    rw [List.getElem?_map]
    cases hj : acc.toList[j]? with
    | none =>
      have h1 := List.getElem?_eq_none_iff.mp hj
      rw [List.getElem?_eq_none (by omega)]
      rfl
    | some v =>
      obtain ⟨en, hen, hv⟩ := hacc.2 j v (by rw [← Array.getElem?_toList]; exact hj)
      have qe := entry_at he j
      rw [hen] at qe
      unfold ents at qe
      rw [List.getElem?_map] at qe
      cases hb : L[j]? with
      | none =>
        rw [hb] at qe
        exact nomatch (show some en = none from qe)
      | some b =>
        rw [hb] at qe
        have e2 := Option.some.inj (show some en = some (entryOfKey (tupleKind (intKind X.prog X.w)) (pkey b.1, b.2, .bool true)) from qe)
        rw [hv, e2]
        rfl
  have I1 : Inv X pins σ H { s with heap := h', toks := tk } := I.kept hk
  have lacc : acc.toList.length ≤ sizeLine := by rw [ea, List.length_map]; exact hz
  refine wpAny_bind (wpAny_newList ?_ lacc)
  have hoL : (h'.push (seqObj "list" acc.toList.toArray 0)).get? h'.objs.size = some (seqObj "list" acc.toList.toArray 0) := Heap.get?_push_size _ rfl
  show wpAny _ _ _ _ _ { s with heap := h'.push (seqObj "list" acc.toList.toArray 0), toks := tk }
  have pr : ∀ v ∈ acc.toList, Srt.IsPair (h'.push (seqObj "list" acc.toList.toArray 0)) v (pairAt L v).1 (pairAt L v).2 := fun v hv => by
    rw [ea] at hv
    obtain ⟨x, hxL, rfl⟩ := List.mem_map.mp hv
    rw [pairAt_of I ks hxL]
    obtain ⟨t, o, t1, t2, n, e1, e2, e3, e4⟩ := pairs_is I1 (ks x hxL)
    exact ⟨t, o, t1, t2, n, e1, Heap.get?_push_of_some _ e2, e3, e4⟩
  refine wpAny_bind (wpAny_holding (wpAny_call_entry PyProof.Rows.slot_list_sort ⟨_, hoL, rfl⟩ PyProof.Rows.entry_list_sort
    (SrtO.list_sort_ord (SrtO.swo_lex (pairAt L)) (s := { s with heap := h'.push (seqObj "list" acc.toList.toArray 0), toks := tk }) hoL lacc (fun h2 => SrtO.pairs_sortableO (by omega) pr fun o' e => ?_) fun out hs hb => ⟨_, rfl, ?_⟩)
    (PyProof.Rows.args_list_sort _)))
  · have e' : some o' = some (seqObj "list" acc.toList.toArray 0) := e.symm.trans hoL
    cases e'
    intro c
    exact absurd (Value.type.inj c) (by decide)
  · -- the new list
    obtain ⟨e', he'⟩ := PyProof.Rows.sortedHeap_at (vs := acc.toList) (out := out.toArray) hoL
    have mem : ∀ v ∈ out, ∃ x ∈ L, v = Value.ref x.2 := fun v hv => by
      have := hb.perm.mem_iff.mp hv
      rw [ea] at this
      obtain ⟨x, hxL, rfl⟩ := List.mem_map.mp this
      exact ⟨x, hxL, rfl⟩
    have hrefs : ∃ as : List Addr, out = as.map Value.ref := by
      refine ⟨out.map fun v => match v with
        | .ref a => a
        | _ => 0, ?_⟩
      rw [List.map_map]
      refine (List.map_id' out).symm.trans (List.map_congr_left fun v hv => ?_)
      obtain ⟨x, _, rfl⟩ := mem v hv
      rfl
    obtain ⟨as, rfl⟩ := hrefs
    have lenA : as.length = L.length := by
      have := hb.perm.length_eq
      rw [List.length_map, ea, List.length_map] at this
      exact this
    have srt : (as.map fun a => pairAt L (.ref a)) = sortP (L.map (·.1)) := by
      refine sortP_unique ?_ ?_
      · have h1 : List.Pairwise (fun v u => SrtO.lexB (pairAt L u) (pairAt L v) = false) (as.map Value.ref) := hs
        rw [List.pairwise_map] at h1
        unfold SortedP
        rw [List.pairwise_map]
        exact h1.imp fun {a b} z => by rw [← ltPr_lex]; exact z
      · have h1 := hb.perm.map (pairAt L)
        rw [ea, List.map_map, List.map_map] at h1
        refine h1.trans (List.Perm.of_eq (List.map_congr_left fun x hxL => ?_))
        exact pairAt_of I ks hxL
    refine wpAny_pure ⟨_, rfl, .ref h'.objs.size, upd H h'.objs.size (.lst (as.map V.ref)), I1.laid (t' := tk) (fun b u e => ?_) (Nat.le_refl _)
      (show ObjOk X.prog X.w _ _ _ (.lst (as.map V.ref)) from ⟨by rw [List.length_map, lenA]; exact hz, as.map Value.ref, e', vals_refs _, he'⟩), rfl, q as lenA srt (fun a ha => ?_) _ (I1.hok.fresh (Nat.le_refl _))⟩
    · have hb' : b < h'.objs.size := Heap.lt_size e
      rw [PyProof.Rows.sortedHeap_old (Nat.ne_of_lt hb') (by rw [size_push']; exact Nat.lt_succ_of_lt hb')]
      exact Heap.get?_push_of_some _ e
    · obtain ⟨x, hxL, ex⟩ := mem (.ref a) (List.mem_map.mpr ⟨a, ha, rfl⟩)
      injection ex with ex
      rw [ex, pairAt_of I ks hxL]
      exact ks x hxL
end
/-! ### as an expression -/
section
variable {K : PySem.W.Frag} {mg : Str → Option Value} {ρ : List Addr} {H H' : Hp}
mutual
theorem RW.map (tp : ∀ a vs, SqT K H a vs → SqT K H' a vs) : ∀ {w : Va} {v : V}, RW K mg ρ H w v → RW K mg ρ H' w v
  | _, _, .non => .non
  | _, _, .bl b => .bl b
  | _, _, .int b => .int b
  | _, _, .str b => .str b
  | _, _, .ty b => .ty b
  | _, _, .glb e => .glb e
  | _, _, .ref e => .ref e
  | _, _, .tup s r => .tup (tp _ _ s) (RWs.map tp r)
theorem RWs.map (tp : ∀ a vs, SqT K H a vs → SqT K H' a vs) : ∀ {ws : List Va} {vs : List V}, RWs K mg ρ H ws vs → RWs K mg ρ H' ws vs
  | _, _, .nil => .nil
  | _, _, .cons r s => .cons (RW.map tp r) (RWs.map tp s)
end
end
section
variable {K : PySem.W.Frag} {mg : Str → Option Value} {ρ : List Addr} {H : Hp} {h : Hm}
/-- an object without a place is changed, one that was not there at first -/
theorem ext_step {ρ1 : List Addr} {H1 : Hp} (f : Fut K ρ1 H1 ρ H) (r : RH K mg ρ H h) {p : Addr} {φ φ' : Heap → Prop} (h1 : H1 p = none) (hp : H p = some (.ext φ)) :
    Fut K ρ1 H1 ρ (upd H p (.ext φ')) ∧ RH K mg ρ (upd H p (.ext φ')) h ∧ ∀ a vs, SqT K H a vs → SqT K (upd H p (.ext φ')) a vs := by
  have ne : ∀ {a : Addr} {o : HO}, H a = some o → (∀ ψ, o ≠ .ext ψ) → upd H p (.ext φ') a = some o := fun {a o} e n => by
    rw [upd_ne]
    · exact e
    · intro z
      rw [z, hp] at e
      exact n φ (Option.some.inj e).symm
  have tp : ∀ a vs, SqT K H a vs → SqT K (upd H p (.ext φ')) a vs := fun a vs s => by
    rcases s with (s | ⟨u, s⟩) | s
    · exact .inl (.inl (ne s (fun _ z => by cases z)))
    · exact .inl (.inr ⟨u, ne s (fun _ z => by cases z)⟩)
    · exact .inr s
  have mv : ∀ {w : Va} {v : V}, RW K mg ρ H w v → RW K mg ρ (upd H p (.ext φ')) w v := fun {w v} r => RW.map tp r
  refine ⟨⟨f.pre, fun a vs s => tp a vs (f.tup a vs s), fun a o k e => ?_⟩, ⟨r.len, r.nod, fun i c a e1 e2 => ?_⟩, tp⟩
  · rw [upd_ne (fun z => by rw [z, h1] at e; cases e)]
    exact f.ext a o k e
  · have rc := r.at_ i c a e1 e2
    cases c with
    | lst ws =>
      obtain ⟨vs, e, q⟩ := rc
      exact ⟨vs, ne e (fun _ z => by cases z), RWs.map tp q⟩
    | frz ws =>
      obtain ⟨vs, e, q⟩ := rc
      refine ⟨vs, ?_, RWs.map tp q⟩
      rcases e with ⟨o, e⟩ | e
      · exact .inl ⟨o, ne e (fun _ z => by cases z)⟩
      · exact .inr e
    | kd ks => exact ne rc (fun _ z => by cases z)
theorem keysAt_fut {ρ' : List Addr} {H' : Hp} {L : PL} (k : KeysAt K H L) (f : Fut K ρ H ρ' H') : KeysAt K H' L := fun q hq => f.tup _ _ (k q hq)
theorem outs_rw (L : PL) : ∀ (out : List Addr), (∀ a ∈ out, SqT K H a [.int (pairAt L (.ref a)).1, .int (pairAt L (.ref a)).2]) → RWs K mg ρ H ((out.map fun a => pairAt L (.ref a)).map pairVa) (out.map V.ref)
  | [], _ => .nil
  | a :: r, h => .cons (.tup (h a List.mem_cons_self) (.cons (.int _) (.cons (.int _) .nil))) (outs_rw L r fun b hb => h b (List.mem_cons_of_mem _ hb))
end
noncomputable def sdR (own : List Nat) (t : Tg) (mi : Sg → Hm → Res Src) (mk : Sg → Hm → Res Va) : Sg → Hm → Res Va := fun σ h => (mi σ h).bind fun s h1 => (sdL s.held t mk (wipeS σ own) s.items [] h1).bind fun acc h2 => newL h2 ((sortP acc).map pairVa)
theorem boot_sorted' : bootBuiltins "sorted" = some (.builtin "sorted") := by decide +kernel
section
variable {X : Cx} {kx vx tg iter : Expr} {scope : Scope} {own : List (Str × Nat)} {pos p p2 : Pos} {t : Tg} {mi : Sg → Hm → Res Src} {mk : Sg → Hm → Res Va}
theorem s_sdp (c : Cal X) (hN : X.N.Nodup) (hg0 : Gl X "sorted") (hm0 : X.mg "sorted" = none) (hi : PI X tg iter (tI X.K X.mg mi)) (ok : BlkOk X.N X.env.scope scope own) (hsl : ∀ j ∈ t.slots, j ∈ own.map (·.2))
    (hg : ∀ (s : Shared) (H : Hp) (C : Addr) (cl : List (Str × Addr)) (fp : List Addr), PG (X.blk s H scope (compEnvC scope cl C X.env) fp) tg (tGo X.K X.mg t))
    (hk : ∀ (s : Shared) (H : Hp) (C : Addr) (cl : List (Str × Addr)) (fp : List Addr), PE (X.blk s H scope (compEnvC scope cl C X.env) fp) kx (tX X.K X.mg mk))
    (hv : ∀ (s : Shared) (H : Hp) (C : Addr) (cl : List (Str × Addr)) (fp : List Addr), PE (X.blk s H scope (compEnvC scope cl C X.env) fp) vx (tC (.bl true))) (hs : ∀ x, foldedSetIterable iter X.env x = pure x) :
    PE X (.Call (.Name "sorted" p) [.DictComp kx vx [⟨tg, iter, [], 0⟩] scope pos] [] p2) (tX X.K X.mg (sdR (own.map (·.2)) t mi mk)) := by
  refine ⟨fun pins s σ H Q I q => ?_⟩
  obtain ⟨ρ, σw, h, w, h', rs, rh, e, q⟩ := q
  obtain ⟨S, h1, e1, e⟩ := bind_eq_ok e
  obtain ⟨acc, h2, e2, e⟩ := bind_eq_ok e
  obtain ⟨hz, rfl, rfl⟩ := newL_ok e
  have lacc : acc.length ≤ sizeLine := by
    have : ((sortP acc).map pairVa).length ≤ sizeLine := hz
    rw [List.length_map, (sortP_perm acc).length_eq] at this
    exact this
  have hu : X.A.units < cLine := by have := c.un; omega
  refine Call_ (ld_blt I hg0 hm0 boot_sorted' (PyProof.Rows.callWith_builtin1 (args_cons (pc_run (Q := fun D L Hq => ∃ ρq, Fut X.K ρ H ρq Hq ∧ RH X.K X.mg ρq Hq h2 ∧ KeysAt X.K Hq L ∧ L.map (·.1) = acc) c.calm hu hN I hi ok hg hk hv hs
    ⟨ρ, σw, h, S, h1, rs, rh, e1, fun ρ1 H1 J f1 rh1 wk D hD => ?_⟩ fun D L s' H' hDs I' hDe q' => args_nil ?_) rfl) rfl))
  · -- the turns
    obtain ⟨f2, rh2⟩ := rh1.aside (o := PdO X.prog X.w D []) hD
    refine ⟨fun i m Hc => m = S.items.length - i ∧ i ≤ S.items.length ∧ ∃ ρc hc L, Fut X.K ρ1 H1 ρc Hc ∧ RH X.K X.mg ρc Hc hc ∧ Hc D = some (PdO X.prog X.w D L) ∧ KeysAt X.K Hc L ∧ (L.map (·.1)).Nodup ∧
      sdL S.held t mk (wipeS σw (own.map (·.2))) (S.items.drop i) (L.map (·.1)) hc = .ok acc h2, ⟨S.items.length, rfl, Nat.zero_le _, ρ1, h1, [], f2, rh2, upd_same, fun q hq => absurd hq (by simp), List.nodup_nil, e2⟩, ?_⟩
    rintro i m Hc ⟨rfl, hi', ρc, hc, L, fc, rhc, hDc, ks, nd, ec⟩
    have rsc : RS X.K X.mg ρc Hc σw σ := rs.fut (f1.trans fc)
    by_cases hlt : i < S.items.length
    · obtain ⟨w, hw⟩ : ∃ w, S.items[i]? = some w := ⟨_, List.getElem?_eq_getElem hlt⟩
      have hdrop : S.items.drop i = w :: S.items.drop (i + 1) := by
        rw [List.drop_eq_getElem_cons hlt]
        rw [List.getElem?_eq_getElem hlt] at hw
        rw [Option.some.inj hw]
      rw [hdrop] at ec
      unfold sdL at ec
      split at ec
      · rename_i held
        split at ec
        · rename_i σ1 g
          obtain ⟨x, ha, ek, ec⟩ := bind_eq_ok ec
          split at ec
          · rename_i pq hpq
            split at ec
            · rename_i hzl
              rw [List.length_map] at hzl
              obtain ⟨wk1, _⟩ := wk ρc Hc hc i fc rhc held
              obtain ⟨go, yld⟩ := wk1 w hw
              refine .inr ⟨go, fun Hn => i + 1 ≤ S.items.length ∧ ∃ ρn hn Ln, Fut X.K ρ1 H1 ρn Hn ∧ RH X.K X.mg ρn Hn hn ∧ Hn D = some (PdO X.prog X.w D Ln) ∧ KeysAt X.K Hn Ln ∧ (Ln.map (·.1)).Nodup ∧
                sdL S.held t mk (wipeS σw (own.map (·.2))) (S.items.drop (i + 1)) (Ln.map (·.1)) hn = .ok acc h2, fun H' ⟨l, z⟩ => ⟨S.items.length - (i + 1), by omega, rfl, l, z⟩, fun xv H' y => ?_⟩
              obtain ⟨f3, rh3, rx⟩ := yld xv H' y
              have hD3 : H' D = some (PdO X.prog X.w D L) := f3.ext _ _ rfl hDc
              refine ⟨ρc, wipeS σw (own.map (·.2)), w, σ1, (rsc.fut f3).wipe _, rx, g, fun σ2 rs2 k2 => ⟨wipe_same (by
                have l1 := rs2.1
                have l2 : σ1.length = (wipeS σw (own.map (·.2))).length := setT_len _ _ _ _ g
                have l3 := ((rsc.fut f3).wipe (own.map (·.2))).1
                rw [← l1, l2, l3, L2.wipe_length]) hsl k2, ?_⟩⟩
              refine ⟨ρc, σ1, hc, x, ha, rs2, rh3, ek, fun ρ5 H5 v5 f5 rh5 rv5 => ?_⟩
              have hw5 := pairV_ok hpq
              subst hw5
              obtain ⟨a, vs, rfl, sq, rr⟩ := rw_tup (ws := [.int pq.1, .int pq.2]) rv5
              obtain ⟨v1, v2, rfl, z1, z2⟩ := rws_2 rr
              rw [rw_int z1, rw_int z2] at sq
              have f35 := f3.trans f5
              have hD5 : H5 D = some (PdO X.prog X.w D L) := f35.ext _ _ rfl hDc
              have ks5 := keysAt_fut ks f35
              refine ⟨L, a, pq.1, pq.2, rfl, sq, hD5, ks5, nd, hzl, by omega, ?_⟩
              obtain ⟨f6, rh6, tp6⟩ := ext_step (φ' := PdAt X.prog X.w D (putP L (pq.1, pq.2) a)) (fc.trans f35) rh5 hD hD5
              refine ⟨ρ5, ha, putP L (pq.1, pq.2) a, f6, rh6, upd_same, fun q hq => ?_, ?_, ?_⟩
              · unfold putP at hq
                split at hq
                · exact tp6 _ _ (ks5 q hq)
                · rcases List.mem_append.mp hq with hq | hq
                  · exact tp6 _ _ (ks5 q hq)
                  · rw [List.mem_singleton.mp hq]
                    exact tp6 _ _ sq
              · unfold putP
                split
                · exact nd
                · rename_i hn
                  rw [List.map_append, List.nodup_append]
                  refine ⟨nd, by simp, fun x hx y hy e => ?_⟩
                  have hy' : y = (pq.1, pq.2) := by simpa using hy
                  rw [e, hy'] at hx
                  exact hn hx
              · have e7 : (putP L (pq.1, pq.2) a).map (·.1) = if pq ∈ L.map (·.1) then L.map (·.1) else L.map (·.1) ++ [pq] := by
                  unfold putP
                  by_cases hm : pq ∈ L.map (·.1)
                  · rw [if_pos hm, if_pos (show (pq.1, pq.2) ∈ L.map (·.1) from hm)]
                  · rw [if_neg hm, if_neg (show ¬ (pq.1, pq.2) ∈ L.map (·.1) from hm), List.map_append]
                    rfl
                rw [e7]
                exact ec
            · cases ec
          · cases ec
        · cases ec
      · cases ec
    · have hi2 : i = S.items.length := by omega
      subst hi2
      rw [List.drop_length] at ec
      unfold sdL at ec
      split at ec
      · rename_i held
        cases ec
        obtain ⟨_, wk2⟩ := wk ρc Hc _ _ fc rhc held
        exact .inl ⟨wk2 rfl, L, hDc, ρc, f1.trans fc, rhc, ks, rfl⟩
      · cases ec
  · obtain ⟨ρq, fq, rhq, ks, hacc⟩ := q'
    refine pd_sorted c.calm I' hDs hDe ks (by rw [← List.length_map (f := (·.1)), hacc]; exact lacc) fun out hl so hsq p hp => ?_
    refine QV.lst (fun ρ2 H2 v2 f2 rh2 rv2 => q ρ2 H2 v2 (fq.trans f2) rh2 rv2) rhq ?_ hp
    rw [← hacc, ← so]
    exact outs_rw L out hsq
end
end Vy
set_option maxHeartbeats 1000000
/-! the checker: the small language against the text; expressions -/
namespace Vy
open PySem PySem.Spec PyProof.Rows L2
def visB (sc : Scope) (x : Str) : Bool := match sc.names.lookup x with
  | some .local => true
  | some .cell => true
  | some .free => true
  | _ => false
def locB (sc : Scope) (x : Str) : Bool := match sc.names.lookup x with
  | some .local => true
  | some .cell => true
  | _ => false
def glbB (sc : Scope) (x : Str) : Bool := match sc.names.lookup x with
  | some .globalImplicit => true
  | _ => false
def dbgB (x : Str) : Bool := !(x == ("__debug__" : Str))
theorem visB_ok {sc : Scope} {x : Str} (h : visB sc x = true) : Vis sc x := by
  unfold visB at h
  split at h
  · exact .inl ‹_›
  · exact .inr (.inl ‹_›)
  · exact .inr (.inr ‹_›)
  · cases h
theorem locB_ok {sc : Scope} {x : Str} (h : locB sc x = true) : Loc sc x := by
  unfold locB at h
  split at h
  · exact .inl ‹_›
  · exact .inr ‹_›
  · cases h
theorem glbB_ok {X : Cx} {c : Ct} {Γ : Ev} (S : Stc c Γ X) {x : Str} (h : glbB c.sc x = true) : Gl X x := by
  unfold glbB at h
  rw [← S.sc] at h
  split at h
  · rename_i hk
    exact hk
  · cases h
theorem dbgB_ok {x : Str} (h : dbgB x = true) : (x == ("__debug__" : Str)) = false := by
  unfold dbgB at h
  simpa using h
/-- a built-in name that the module leaves -/
def bltB (c : Ct) (x : Str) : Bool := glbB c.sc x && decide (x ∈ c.tb.bs) && dbgB x && !(x == ("__name__" : Str))
theorem bltB_ok {X : Cx} {c : Ct} {Γ : Ev} (S : Stc c Γ X) {x : Str} (h : bltB c x = true) : Gl X x ∧ X.mg x = none ∧ (x == ("__debug__" : Str)) = false ∧ x ≠ "__name__" := by
  unfold bltB at h
  simp only [Bool.and_eq_true, decide_eq_true_eq] at h
  obtain ⟨⟨⟨h1, h2⟩, h3⟩, h4⟩ := h
  exact ⟨glbB_ok S h1, S.bs x h2, dbgB_ok h3, by simpa using h4⟩
/-- tests that go by the value's truth -/
def plainT : Expr → Bool
  | .BoolOp _ _ _ => false
  | .UnaryOp .Not _ _ => false
  | .IfExp _ _ _ _ => false
  | .Compare _ _ _ _ => false
  | _ => true
def isBoolE : Expr → Bool
  | .BoolOp _ _ _ => true
  | _ => false
theorem plainT_ok {e : Expr} {env : Env} (h : plainT e = true) : ∀ whole, isTrue e env whole = (do let v ← whole; standAt e.pos; holding [v] (truthy v)) := by
  intro whole
  cases e <;> first | rfl | cases h | (rename_i op _ _; cases op <;> first | rfl | cases h)
def notSlice : Expr → Bool
  | .Slice _ _ _ _ => false
  | _ => true
theorem plainIx_of {b : Expr} (h : notSlice b = true) : PlainIx b := by
  intro o i
  cases b <;> first | rfl | cases h
def notSet : Expr → Bool
  | .Set _ _ _ => false
  | _ => true
theorem notSet_ok {e : Expr} {env : Env} (h : notSet e = true) : ∀ x, foldedSetIterable e env x = pure x := by
  intro x
  cases e <;> first | rfl | cases h
def notComp : Expr → Bool
  | .ListComp _ _ _ _ => false
  | .SetComp _ _ _ _ => false
  | .DictComp _ _ _ _ _ => false
  | _ => true
def baseB : Expr → Bool
  | .Call (.Name _ _) [] [] _ => false
  | _ => true
theorem baseB_ok {o : Expr} {n : Str} {env : Env} {whole : Sem Value} (h : baseB o = true) : attributeBase o n env whole = whole := by
  unfold attributeBase
  split
  · exact absurd (show false = true from h) Bool.false_ne_true
  · rfl
def cstB (c : Ct) : Va → Expr → Bool
  | .int i, .Constant (.int j) _ _ => decide (i = j)
  | .str i, .Constant (.str j) _ _ => decide (i = j)
  | .bl i, .Constant (.bool j) _ _ => decide (i = j)
  | .non, .Constant .none _ _ => true
  | .ty n, .Name x _ => decide (x = Str.ofString n) && tyOk n && bltB c x
  | _, _ => false
theorem boot_ty : ∀ n ∈ tyNames, bootBuiltins (Str.ofString n) = some (.type n) := by
  have h : (tyNames.all fun n => decide (bootBuiltins (Str.ofString n) = some (.type n))) = true := by decide +kernel
  intro n hn
  have := List.all_eq_true.mp h n hn
  exact of_decide_eq_true this
theorem cst_ok {X : Cx} {c : Ct} {Γ : Ev} (S : Stc c Γ X) {w : Va} {e : Expr} (h : cstB c w e = true) : PE X e (tX X.K X.mg fun _ h => .ok w h) ∧ plainT e = true := by
  unfold cstB at h
  split at h
  · rw [of_decide_eq_true h]
    exact ⟨imp_e pe_int fun _ _ _ q => tX_const (fun _ _ => .int _) q, rfl⟩
  · rw [of_decide_eq_true h]
    exact ⟨imp_e pe_str fun _ _ _ q => tX_const (fun _ _ => .str _) q, rfl⟩
  · rw [of_decide_eq_true h]
    exact ⟨imp_e pe_bl fun _ _ _ q => tX_const (fun _ _ => .bl _) q, rfl⟩
  · exact ⟨imp_e pe_non fun _ _ _ q => tX_const (fun _ _ => .non) q, rfl⟩
  · rename_i n x p
    simp only [Bool.and_eq_true, decide_eq_true_eq] at h
    obtain ⟨⟨h1, h2⟩, h3⟩ := h
    obtain ⟨g1, g2, g3, g4⟩ := bltB_ok S h3
    refine ⟨⟨fun pins s σ H Q I q => ?_⟩, rfl⟩
    have q' := tX_const (K := X.K) (mg := X.mg) (w := .ty n) (v := .ty n) (fun ρ H => RW.ty n) q
    refine ld_blt I g1 g2 (by rw [h1]; exact boot_ty n (by simpa [tyOk] using h2)) ?_ g4 g3
    exact ⟨.ty n, H, I, rfl, q'⟩
  · cases h
/-- the names that are called -/
def biN : Bi → Str
  | .len => "len"
  | .abs => "abs"
  | .int => "int"
  | .str => "str"
  | .sum => "sum"
  | .min => "min"
  | .max => "max"
  | .tuple => "tuple"
  | .list => "list"
  | .all => "all"
  | .any => "any"
  | .isinst => "isinstance"
  | .repr => "repr"
  | .sorted => "sorted"
  | .lrange => "list"
  | .listd => "list"
theorem boot_bi (f : Bi) : bootBuiltins (biN f) = some (biF f) := by
  cases f <;> decide +kernel
/-- the arguments of a built-in call -/
def biArgs (c : Ct) (f : Bi) (e : Expr) : Option (List Expr) := match e with
  | .Call (.Name x _) (a :: r) [] _ => if f.plain && decide (x = biN f) && bltB c x then some (a :: r) else match f, a, r with
    | .lrange, .Call (.Name y _) (b :: s) [] _, [] => if decide (x = "list") && bltB c x && decide (y = "range") && bltB c y then some (b :: s) else none
    | _, _, _ => none
  | _ => none
def isTupE : Expr → Bool
  | .Tuple _ _ _ => true
  | _ => false
theorem isTupE_ok {e : Expr} (h : isTupE e = true) : ∃ l k p, e = .Tuple l k p := by
  unfold isTupE at h
  split at h
  · exact ⟨_, _, _, rfl⟩
  · cases h
/-- the arguments of what is walked -/
def itArgs (c : Ct) (f : Wk) (tg : Expr) (e : Expr) : Option (List Expr) := match f, e with
  | .rng, .Call (.Name x _) (a :: r) [] _ => if decide (x = "range") && bltB c x then some (a :: r) else none
  | .zip3, .Call (.Name x _) [a, b, d] [] _ => if decide (x = "zip") && bltB c x && isTupE tg then some [a, b, d] else none
  | .enum, .Call (.Name x _) [a] [] _ => if decide (x = "enumerate") && bltB c x && isTupE tg then some [a] else none
  | .zip2, .Call (.Name x _) [a, b] [] _ => if decide (x = "zip") && bltB c x && isTupE tg then some [a, b] else none
  | _, _ => none
/-- the block's own names -/
def ownOf (N : List Str) (own : List Nat) : List (Str × Nat) := own.map fun i => ((N[i]?).getD default, i)
theorem ownOf_snd (N : List Str) (own : List Nat) : (ownOf N own).map (·.2) = own := by
  unfold ownOf
  rw [List.map_map]
  exact List.map_id' own
mutual
def tgB (c : Ct) : Tg → Expr → Bool
  | .nm i, .Name x _ => decide (c.N[i]? = some x) && locB c.sc x && (c.fc x || decide (c.sc.names.lookup x = some .local))
  | .tup ts, .Tuple es _ _ => tgsB c ts es
  | _, _ => false
def tgsB (c : Ct) : List Tg → List Expr → Bool
  | [], [] => true
  | t :: ts, e :: es => tgB c t e && !isStar e && tgsB c ts es
  | _, _ => false
end
theorem tgsB_len {c : Ct} {env : Env} : ∀ {ts : List Tg} {es : List Expr}, tgsB c ts es = true → (assignEach es env).length = ts.length ∧ (assignEach es env).findIdx? (·.1) = none
  | [], [], _ => ⟨rfl, rfl⟩
  | [], _ :: _, h => by cases h
  | _ :: _, [], h => by cases h
  | t :: ts, e :: es, h => by
    have h' : (tgB c t e && !isStar e && tgsB c ts es) = true := h
    simp only [Bool.and_eq_true] at h'
    obtain ⟨⟨_, h2⟩, h3⟩ := h'
    obtain ⟨i1, i2⟩ := tgsB_len (env := env) h3
    rw [assign_one (by simpa using h2)]
    refine ⟨by simp [i1], ?_⟩
    rw [List.findIdx?_cons]
    simp [i2]
mutual
theorem tg_ok {X : Cx} {c : Ct} {Γ : Ev} (S : Stc c Γ X) : ∀ (t : Tg) (e : Expr), tgB c t e = true → PG X e (tGo X.K X.mg t)
  | .nm i, e, h => by
    cases e with
    | Name x p =>
      have h' : (decide (c.N[i]? = some x) && locB c.sc x && (c.fc x || decide (c.sc.names.lookup x = some .local))) = true := h
      simp only [Bool.and_eq_true, Bool.or_eq_true, decide_eq_true_eq] at h'
      obtain ⟨⟨h1, h2⟩, h3⟩ := h'
      refine s_gname S.nd (by rw [S.N]; exact h1) (by rw [S.sc]; exact locB_ok h2) ?_
      rcases h3 with h3 | h3
      · exact .inl (S.fc _ h3)
      · exact .inr (by rw [S.sc]; exact h3)
    | _ => exact nomatch (show false = true from h)
  | .tup ts, e, h => by
    cases e with
    | Tuple es k p =>
      have h' : tgsB c ts es = true := h
      obtain ⟨l1, l2⟩ := tgsB_len (env := X.env) h'
      exact s_gtup S.cal.calm (tgs_ok S ts es h') l1 l2
    | _ => exact nomatch (show false = true from h)
theorem tgs_ok {X : Cx} {c : Ct} {Γ : Ev} (S : Stc c Γ X) : ∀ (ts : List Tg) (es : List Expr), tgsB c ts es = true → PGs X es (tGs X.K X.mg ts)
  | [], [], _ => s_gnil
  | [], _ :: _, h => by cases h
  | _ :: _, [], h => by cases h
  | t :: ts, e :: es, h => by
    have h' : (tgB c t e && !isStar e && tgsB c ts es) = true := h
    simp only [Bool.and_eq_true] at h'
    obtain ⟨⟨h1, h2⟩, h3⟩ := h'
    exact s_gcons (tg_ok S t e h1) (tgs_ok S ts es h3) (by rw [assign_one (by simpa using h2)]; rfl)
end
end Vy
set_option maxHeartbeats 1000000
/-! views of the text; the checker of expressions -/
namespace Vy
open PySem PySem.Spec PyProof.Rows L2
def vName : Expr → Option Str
  | .Name x _ => some x
  | _ => none
def vBin : Expr → Option (Operator × Expr × Expr)
  | .BinOp x o y _ => some (o, x, y)
  | _ => none
def vUn : Expr → Option (UnaryOp × Expr)
  | .UnaryOp o x _ => some (o, x)
  | _ => none
/-- x and y and ..: the first, the rest as an expression (whole: it is a BoolOp still) -/
def vBool : Expr → Option (BoolOp × Expr × Expr × List Expr × Pos)
  | .BoolOp o (x :: y :: r) p => some (o, x, y, r, p)
  | _ => none
def vCmp : Expr → Option (CmpOp × Expr × Expr)
  | .Compare x [o] [y] _ => some (o, x, y)
  | _ => none
def vCmp2 : Expr → Option (CmpOp × CmpOp × Expr × Expr × Expr)
  | .Compare x [o, q] [y, z] _ => some (o, q, x, y, z)
  | _ => none
def vIf : Expr → Option (Expr × Expr × Expr)
  | .IfExp x y z _ => some (x, y, z)
  | _ => none
def vTup : Expr → Option (List Expr)
  | .Tuple l _ _ => some l
  | _ => none
def vLst : Expr → Option (List Expr)
  | .List l _ => some l
  | _ => none
def vSub : Expr → Option (Expr × Expr)
  | .Subscript x y _ => some (x, y)
  | _ => none
def vSlc : Expr → Option (Expr × Option Expr × Option Expr)
  | .Subscript x (.Slice l h none _) _ => some (x, l, h)
  | _ => none
def vStep : Expr → Option (Expr × Option Expr × Option Expr × Expr)
  | .Subscript x (.Slice l h (some st) _) _ => some (x, l, h, st)
  | _ => none
def vCall : Expr → Option (Str × List Expr)
  | .Call (.Name x _) l [] _ => some (x, l)
  | _ => none
def vCallK : Expr → Option (Str × List Expr × List Keyword)
  | .Call (.Name x _) l (k :: kws) _ => some (x, l, k :: kws)
  | _ => none
def noSt : Xs → Bool
  | .nil => true
  | .cons _ r => noSt r
  | .star _ _ => false
def kwVals (kws : List Keyword) : List Expr := kws.map fun k => k.value
def vMeth (n : Str) : Expr → Option (Expr × List Expr)
  | .Call (.Attribute o m ap) l [] p => if decide (m = n) && baseB o && (ap.endLine == p.line) && noStar l && decide (l.length < 30) then some (o, l) else none
  | _ => none
def vComp : Expr → Option (Expr × Expr × Expr × List Expr × Scope)
  | .ListComp e [⟨t, i, fs, a⟩] sc _ => if a = 0 then some (e, t, i, fs, sc) else none
  | _ => none
def vComp2 : Expr → Option (Expr × Expr × Expr × Expr × Expr × Scope)
  | .ListComp e [⟨t, i, [], a⟩, ⟨t1, i1, [], b⟩] sc _ => if a = 0 ∧ b = 0 then some (e, t, i, t1, i1, sc) else none
  | _ => none
theorem vComp2_ok {e x t i t1 i1 : Expr} {sc : Scope} (h : vComp2 e = some (x, t, i, t1, i1, sc)) : ∃ p, e = .ListComp x [⟨t, i, [], 0⟩, ⟨t1, i1, [], 0⟩] sc p := by
  unfold vComp2 at h
  split at h
  · split at h
    · rename_i g
      cases h
      rw [g.1, g.2]
      exact ⟨_, rfl⟩
    · cases h
  · cases h
def isD0 : Expr → Bool
  | .Dict [] [] _ => true
  | _ => false
theorem isD0_ok {e : Expr} (h : isD0 e = true) : ∃ p, e = .Dict [] [] p := by
  unfold isD0 at h
  split at h
  · exact ⟨_, rfl⟩
  · cases h
def isTrueC : Expr → Bool
  | .Constant (.bool b) _ _ => b
  | _ => false
theorem isTrueC_ok {X : Cx} {e : Expr} (h : isTrueC e = true) : PE X e (tC (.bl true)) := by
  unfold isTrueC at h
  split at h
  · subst h; exact pe_bl
  · cases h
def vSdp : Expr → Option (Expr × Expr × Expr × Expr × Scope)
  | .Call (.Name x _) [.DictComp k v [⟨t, i, [], a⟩] sc _] [] _ => if a = 0 ∧ x = "sorted" then some (k, v, t, i, sc) else none
  | _ => none
def vLdc : Expr → Option (Expr × Expr × Expr × Expr × Scope)
  | .Call (.Name x _) [.DictComp k v [⟨t, i, [], a⟩] sc _] [] _ => if a = 0 ∧ x = "len" then some (k, v, t, i, sc) else none
  | _ => none
def vSss : Expr → Option Expr
  | .Call (.Name x _) [.Call (.Name y _) [a] [] _] [] _ => if x = "sorted" ∧ y = "set" then some a else none
  | _ => none
section
variable {e : Expr}
theorem vLdc_ok {k v t i : Expr} {sc : Scope} (h : vLdc e = some (k, v, t, i, sc)) : ∃ p q r, e = .Call (.Name "len" p) [.DictComp k v [⟨t, i, [], 0⟩] sc q] [] r := by
  unfold vLdc at h
  split at h
  · split at h
    · rename_i g
      cases h
      rw [g.1, g.2]
      exact ⟨_, _, _, rfl⟩
    · cases h
  · cases h
theorem vSss_ok {a : Expr} (h : vSss e = some a) : ∃ p p2 q1 q2, e = .Call (.Name "sorted" p) [.Call (.Name "set" p2) [a] [] q2] [] q1 := by
  unfold vSss at h
  split at h
  · split at h
    · rename_i g
      cases h
      rw [g.1, g.2]
      exact ⟨_, _, _, _, rfl⟩
    · cases h
  · cases h
theorem vSdp_ok {k v t i : Expr} {sc : Scope} (h : vSdp e = some (k, v, t, i, sc)) : ∃ p q r, e = .Call (.Name "sorted" p) [.DictComp k v [⟨t, i, [], 0⟩] sc q] [] r := by
  unfold vSdp at h
  split at h
  · split at h
    · rename_i g
      cases h
      rw [g.1, g.2]
      exact ⟨_, _, _, rfl⟩
    · cases h
  · cases h
theorem vName_ok {x : Str} (h : vName e = some x) : ∃ p, e = .Name x p := by
  unfold vName at h
  split at h
  · cases h; exact ⟨_, rfl⟩
  · cases h
theorem vBin_ok {o : Operator} {x y : Expr} (h : vBin e = some (o, x, y)) : ∃ p, e = .BinOp x o y p := by
  unfold vBin at h
  split at h
  · cases h; exact ⟨_, rfl⟩
  · cases h
theorem vUn_ok {o : UnaryOp} {x : Expr} (h : vUn e = some (o, x)) : ∃ p, e = .UnaryOp o x p := by
  unfold vUn at h
  split at h
  · cases h; exact ⟨_, rfl⟩
  · cases h
theorem vBool_ok {o : BoolOp} {x y : Expr} {r : List Expr} {p : Pos} (h : vBool e = some (o, x, y, r, p)) : e = .BoolOp o (x :: y :: r) p := by
  unfold vBool at h
  split at h
  · cases h; rfl
  · cases h
theorem vCmp_ok {o : CmpOp} {x y : Expr} (h : vCmp e = some (o, x, y)) : ∃ p, e = .Compare x [o] [y] p := by
  unfold vCmp at h
  split at h
  · cases h; exact ⟨_, rfl⟩
  · cases h
theorem vCmp2_ok {o q : CmpOp} {x y z : Expr} (h : vCmp2 e = some (o, q, x, y, z)) : ∃ p, e = .Compare x [o, q] [y, z] p := by
  unfold vCmp2 at h
  split at h
  · cases h; exact ⟨_, rfl⟩
  · cases h
theorem vIf_ok {x y z : Expr} (h : vIf e = some (x, y, z)) : ∃ p, e = .IfExp x y z p := by
  unfold vIf at h
  split at h
  · cases h; exact ⟨_, rfl⟩
  · cases h
theorem vTup_ok {l : List Expr} (h : vTup e = some l) : ∃ k p, e = .Tuple l k p := by
  unfold vTup at h
  split at h
  · cases h; exact ⟨_, _, rfl⟩
  · cases h
theorem vLst_ok {l : List Expr} (h : vLst e = some l) : ∃ p, e = .List l p := by
  unfold vLst at h
  split at h
  · cases h; exact ⟨_, rfl⟩
  · cases h
theorem vSub_ok {x y : Expr} (h : vSub e = some (x, y)) : ∃ p, e = .Subscript x y p := by
  unfold vSub at h
  split at h
  · cases h; exact ⟨_, rfl⟩
  · cases h
theorem vSlc_ok {x : Expr} {l u : Option Expr} (h : vSlc e = some (x, l, u)) : ∃ p q, e = .Subscript x (.Slice l u none p) q := by
  unfold vSlc at h
  split at h
  · cases h; exact ⟨_, _, rfl⟩
  · cases h
theorem vStep_ok {x st : Expr} {l u : Option Expr} (h : vStep e = some (x, l, u, st)) : ∃ p q, e = .Subscript x (.Slice l u (some st) p) q := by
  unfold vStep at h
  split at h
  · cases h; exact ⟨_, _, rfl⟩
  · cases h
theorem vCall_ok {x : Str} {l : List Expr} (h : vCall e = some (x, l)) : ∃ p q, e = .Call (.Name x p) l [] q := by
  unfold vCall at h
  split at h
  · cases h; exact ⟨_, _, rfl⟩
  · cases h
theorem vCallK_ok {x : Str} {l : List Expr} {kws : List Keyword} (h : vCallK e = some (x, l, kws)) : ∃ p q, e = .Call (.Name x p) l kws q := by
  unfold vCallK at h
  split at h
  · cases h; exact ⟨_, _, rfl⟩
  · cases h
theorem vMeth_ok {n : Str} {o : Expr} {l : List Expr} (h : vMeth n e = some (o, l)) : ∃ ap p, e = .Call (.Attribute o n ap) l [] p ∧ baseB o = true ∧ (ap.endLine == p.line) = true ∧ noStar l = true ∧ l.length < 30 := by
  unfold vMeth at h
  split at h
  · split at h
    · rename_i g
      cases h
      simp only [Bool.and_eq_true, decide_eq_true_eq] at g
      obtain ⟨⟨⟨⟨rfl, g2⟩, g3⟩, g4⟩, g5⟩ := g
      exact ⟨_, _, rfl, g2, g3, g4, g5⟩
    · cases h
  · cases h
theorem vComp_ok {x t i : Expr} {fs : List Expr} {sc : Scope} (h : vComp e = some (x, t, i, fs, sc)) : ∃ p, e = .ListComp x [⟨t, i, fs, 0⟩] sc p := by
  unfold vComp at h
  split at h
  · split at h
    · rename_i g
      cases h
      rw [g]
      exact ⟨_, rfl⟩
    · cases h
  · cases h
theorem biArgs_ok {X : Cx} {c : Ct} {Γ : Ev} (S : Stc c Γ X) {f : Bi} {l : List Expr} {ms : Sg → Hm → Res (List Va)} (h : biArgs c f e = some l) (hn : noStar l = true) (ha : PA X l (tXs X.K X.mg ms)) :
    PE X e (tX X.K X.mg fun σ h => (ms σ h).bind fun ws h1 => biV f ws h1) ∧ plainT e = true := by
  unfold biArgs at h
  split at h
  · split at h
    · rename_i g
      cases h
      simp only [Bool.and_eq_true, decide_eq_true_eq] at g
      obtain ⟨⟨g1, rfl⟩, g3⟩ := g
      obtain ⟨k1, k2, k3, k4⟩ := bltB_ok S g3
      obtain ⟨n1, n2⟩ := noStar_cons hn
      exact ⟨s_bi S.cal f g1 k1 k2 (boot_bi f) ha k4 k3 (star_one n1) (noStar_any n2), rfl⟩
    · split at h
      · split at h
        · rename_i g
          cases h
          simp only [Bool.and_eq_true, decide_eq_true_eq] at g
          obtain ⟨⟨⟨rfl, g2⟩, rfl⟩, g4⟩ := g
          obtain ⟨k1, k2, _, _⟩ := bltB_ok S g2
          obtain ⟨j1, j2, _, _⟩ := bltB_ok S g4
          obtain ⟨n1, n2⟩ := noStar_cons hn
          exact ⟨s_lrange S.cal.calm j1 j2 k1 k2 ha (star_one n1) (noStar_any n2), rfl⟩
        · cases h
      · cases h
  · cases h
theorem itArgs_ok {X : Cx} {c : Ct} {Γ : Ev} (S : Stc c Γ X) {f : Wk} {tg : Expr} {l : List Expr} {ms : Sg → Hm → Res (List Va)} (h : itArgs c f tg e = some l) (hn : noStar l = true) (ha : PA X l (tXs X.K X.mg ms)) :
    PI X tg e (tI X.K X.mg (iterR f ms)) := by
  unfold itArgs at h
  split at h
  · split at h
    · rename_i g
      cases h
      simp only [Bool.and_eq_true, decide_eq_true_eq] at g
      obtain ⟨rfl, g2⟩ := g
      obtain ⟨k1, k2, _, _⟩ := bltB_ok S g2
      obtain ⟨n1, n2⟩ := noStar_cons hn
      exact s_range k1 k2 ha (star_one n1) (noStar_any n2)
    · cases h
  · split at h
    · rename_i g
      cases h
      simp only [Bool.and_eq_true, decide_eq_true_eq] at g
      obtain ⟨⟨rfl, g2⟩, g3⟩ := g
      obtain ⟨k1, k2, _, _⟩ := bltB_ok S g2
      obtain ⟨n1, n2⟩ := noStar_cons hn
      obtain ⟨_, _, _, rfl⟩ := isTupE_ok g3
      exact s_zip3 k1 k2 ha (star_one n1) (noStar_any n2)
    · cases h
  · split at h
    · rename_i g
      cases h
      simp only [Bool.and_eq_true, decide_eq_true_eq] at g
      obtain ⟨⟨rfl, g2⟩, g3⟩ := g
      obtain ⟨k1, k2, _, _⟩ := bltB_ok S g2
      obtain ⟨n1, n2⟩ := noStar_cons hn
      obtain ⟨_, _, _, rfl⟩ := isTupE_ok g3
      exact s_enum k1 k2 ha (by rw [star_one n1]; rfl)
    · cases h
  · split at h
    · rename_i g
      cases h
      simp only [Bool.and_eq_true, decide_eq_true_eq] at g
      obtain ⟨⟨rfl, g2⟩, g3⟩ := g
      obtain ⟨k1, k2, _, _⟩ := bltB_ok S g2
      obtain ⟨n1, n2⟩ := noStar_cons hn
      obtain ⟨_, _, _, rfl⟩ := isTupE_ok g3
      exact s_zip2 k1 k2 ha (star_one n1) (noStar_any n2)
    · cases h
  · cases h
end
/-- the block's names check -/
def blB (c : Ct) (own : List Nat) (scope : Scope) : Bool := blkC c.N c.sc scope (ownOf c.N own)
mutual
def kX (c : Ct) : Bool → Xp → Expr → Bool
  | _, .var i, e => match vName e with
    | some x => decide (c.N[i]? = some x) && visB c.sc x && dbgB x && !(x == ("__classdict__" : Str))
    | none => false
  | _, .cst w, e => cstB c w e
  | _, .glob _ x, e => match vName e with
    | some y => decide (y = x) && glbB c.sc x && decide (x ∈ c.tb.gs) && dbgB x
    | none => false
  | _, .bin o a b, e => match vBin e with
    | some (o', x, y) => decide (o' = opM o) && kX c false a x && kX c false b y
    | none => false
  | _, .neg a, e => match vUn e with
    | some (o, x) => decide (o = .USub) && kX c false a x
    | none => false
  | t, .not a, e => match vUn e with
    | some (o, x) => decide (o = .Not) && kX c t a x
    | none => false
  | t, .and a b, e => match vBool e with
    | some (o, x, y, r, p) => decide (o = .And) && kX c t a x && kX c t b (if r.isEmpty then y else .BoolOp .And (y :: r) p)
    | none => false
  | t, .or a b, e => match vBool e with
    | some (o, x, y, r, p) => decide (o = .Or) && kX c t a x && kX c t b (if r.isEmpty then y else .BoolOp .Or (y :: r) p)
    | none => false
  | _, .cmp o a b, e => match vCmp e with
    | some (o', x, y) => decide (o' = cpM o) && kX c false a x && kX c false b y && !behindInMarks o' y
    | none => false
  | _, .cmp2 o q a b d, e => match vCmp2 e with
    | some (o', q', x, y, z) => decide (o' = cpM o) && decide (q' = cpM q) && kX c false a x && kX c false b y && kX c false d z && !lastMarks [o', q'] [y, z]
    | none => false
  | t, .ife q a b, e => match vIf e with
    | some (x, y, z) => kX c true q x && kX c t a y && kX c t b z
    | none => false
  | _, .tup es, e => match vTup e with
    | some l => kXs c es l
    | none => false
  | _, .lst es, e => match vLst e with
    | some l => kXs c es l
    | none => false
  | _, .idx a b, e => match vSub e with
    | some (x, y) => notSlice y && kX c false a x && kX c false b y
    | none => false
  | _, .slc a lo hi, e => match vSlc e with
    | some (x, l, h) => kX c false a x && kXo c lo l && kXo c hi h
    | none => false
  | _, .slcs a lo hi st, e => match vStep e with
    | some (x, l, h, k) => kX c false a x && kXo c lo l && kXo c hi h && kX c false st k
    | none => false
  | _, .call _ f es, e => match vCall e with
    | some (x, l) => decide (x = f) && decide (f ∈ c.tb.fs) && glbB c.sc f && dbgB f && noStar l && kXs c es l
    | none => false
  | _, .callk _ f ks es fs, e => match vCallK e with
    | some (x, l, kws) => decide (x = f) && decide (f ∈ c.tb.fs) && glbB c.sc f && dbgB f && noStar l && kws.all (fun k => k.arg.isSome) && decide (kwNames kws = ks) && decide (ks = (c.tb.pf f).drop l.length) && kXs c es l && noSt fs && kXs c fs (kwVals kws)
    | none => false
  | _, .bi f es, e => match biArgs c f e with
    | some l => noStar l && kXs c es l
    | none => false
  | _, .me m o es, e => match vMeth (meN m) e with
    | some (x, l) => kX c false o x && kXs c es l
    | none => false
  | _, .lc own elt t it ifs, e => match vComp e with
    | some (x, tg, i, fs, sc) => blB c own sc && (t.slots.all fun j => own.contains j) && notSet i && kIt c tg it i && tgB (c.blk sc) t tg && kIf (c.blk sc) ifs fs && kX (c.blk sc) false elt x
    | none => false
  | _, .sdp own key t it, e => match vSdp e with
    | some (k, v, tg, i, sc) => bltB c "sorted" && isTrueC v && blB c own sc && (t.slots.all fun j => own.contains j) && notSet i && kIt c tg it i && tgB (c.blk sc) t tg && kX (c.blk sc) false key k
    | none => false
  | _, .sds own key t it, e => match vSdp e with
    | some (k, v, tg, i, sc) => bltB c "sorted" && isTrueC v && blB c own sc && (t.slots.all fun j => own.contains j) && notSet i && kIt c tg it i && tgB (c.blk sc) t tg && kX (c.blk sc) false key k
    | none => false
  | _, .ldi own key t it, e => match vLdc e with
    | some (k, v, tg, i, sc) => bltB c "len" && isTrueC v && blB c own sc && (t.slots.all fun j => own.contains j) && notSet i && kIt c tg it i && tgB (c.blk sc) t tg && kX (c.blk sc) false key k
    | none => false
  | _, .sss p, e => match vSss e with
    | some a => bltB c "sorted" && bltB c "set" && !isStar a && kX c false p a
    | none => false
  | _, .lc2 own elt t it vs1 t1 it1, e => match vComp2 e with
    | some (x, tg, i, tg1, i1, sc) => blB c own sc && (t.slots.all fun j => own.contains j) && (t1.slots.all fun j => vs1.contains j) && (vs1.all fun j => own.contains j) && notSet i && notSet i1 && kIt c tg it i && tgB (c.blk sc) t tg && kIt (c.blk sc) tg1 it1 i1 && tgB (c.blk sc) t1 tg1 && kX (c.blk sc) false elt x
    | none => false
  | _, .gc p, e => plainT e && kX c false p e
  | _, .dnew, e => isD0 e
def kXs (c : Ct) : Xs → List Expr → Bool
  | .nil, l => l.isEmpty
  | .cons p r, l => match l with
    | a :: l => !isStar a && kX c false p a && kXs c r l
    | [] => false
  | .star p r, l => match l with
    | .Starred a _ :: l => kX c false p a && kXs c r l
    | _ => false
def kXo (c : Ct) : Xo → Option Expr → Bool
  | .none, o => o.isNone
  | .some p, o => match o with
    | some e => kX c false p e
    | none => false
def kIf (c : Ct) : Xo → List Expr → Bool
  | .none, l => l.isEmpty
  | .some p, l => match l with
    | [e] => kX c true p e
    | _ => false
def kIt (c : Ct) (tg : Expr) : It' → Expr → Bool
  | .seq p, e => kX c false p e
  | .of f es, e => match itArgs c f tg e with
    | some l => noStar l && kXs c es l
    | none => false
end
end Vy
set_option maxHeartbeats 2000000
/-! sets of texts: set(list), sorted of it -/
namespace Vy
open PySem PySem.Spec PyProof.Rows L2
/-- the text that an entry holds -/
def txE (e : Int × Value) : Str := match e.2 with
  | .str x _ => x
  | _ => default
def TxE (w : World) (e : Int × Value) : Prop := ∃ x t, e.2 = .str x t ∧ e.1 = hashStr w x
/-- the set at a holds just the texts l, each once; it can be walked -/
def TxSet (w : World) (h : Heap) (a : Addr) (l : List Str) : Prop :=
  ∃ ob ents ep tab, h.get? a = some ob ∧ ob.ExactSet ∧ ob.data = .set ents ep tab ∧ ((∀ e ∈ ents.toList, TxE w e) ∧ (ents.toList.map txE).Perm l ∧ l.Nodup) ∧
    ents.size < scanBound ∧ tab.fits ents.size = true ∧ Ris tab.place.toList ∧ (w.params.followText "set-order" = true ∨ tab.led = true)
section
variable {P : Program} {w : World} {h h' : Heap} {a : Addr} {l : List Str}
theorem TxSet.keep (R : TxSet w h a l) (k : ∀ o, h.get? a = some o → h'.get? a = some o) : TxSet w h' a l := by
  obtain ⟨ob, ents, ep, tab, g, rest⟩ := R
  exact ⟨ob, ents, ep, tab, k ob g, rest⟩
theorem tx_is {e : Int × Value} (g : TxE w e) (x : Str) : (strKind P w).is x e.2 = true ↔ txE e = x := by
  obtain ⟨y, t, e1, _⟩ := g
  unfold txE
  rw [e1]
  show (y == x) = true ↔ y = x
  exact beq_iff_eq
theorem tx_elems {es : List (Int × Value)} (g : ∀ e ∈ es, TxE w e) : ElemsOf (strKind P w) es := fun e he => by
  have ge := g e he
  obtain ⟨y, t, e1, e2⟩ := ge
  refine ⟨⟨y, (tx_is (P := P) (g e he) y).mpr (by unfold txE; rw [e1]), e2⟩, ?_⟩
  rw [e1]
  rfl
theorem tx_mem {es : List (Int × Value)} (g : ∀ e ∈ es, TxE w e) (x : Str) : x ∈ es.map txE ↔ ∃ e ∈ es, (strKind P w).is x e.2 = true := by
  rw [List.mem_map]
  exact ⟨fun ⟨e, he, q⟩ => ⟨e, he, (tx_is (g e he) x).mpr q⟩, fun ⟨e, he, q⟩ => ⟨e, he, (tx_is (g e he) x).mp q⟩⟩
theorem TxSet.size (R : TxSet w h a l) : ∃ ob ents ep tab, h.get? a = some ob ∧ ob.data = .set ents ep tab ∧ ents.size = l.length ∧ ents.size < scanBound := by
  obtain ⟨ob, ents, ep, tab, g, _, hd, ⟨_, pm, _⟩, hb, _⟩ := R
  refine ⟨ob, ents, ep, tab, g, hd, ?_, hb⟩
  have := pm.length_eq
  rw [List.length_map, Array.length_toList] at this
  exact this
end
section
variable {P : Program} {w : World} {A : Around} {E : Value → Shared → Prop} {s : Shared} {a : Addr} {l : List Str}
/-- the table is laid anew where it is too full -/
theorem tx_settle {g : Bool → Sem Unit} (quiet : ∀ (b : Bool) (s1 : Shared) (Q1 : Unit → Shared → Prop), Q1 () s1 → wpAny (model P w) A (g b) Q1 E s1)
    {ob : Obj} {ents news : Array (Int × Value)} {ep : Nat} {tab tab' : SetTable} (at0 : s.heap.get? a = some ob) (ex : ob.ExactSet) (hd : ob.data = .set ents ep tab)
    (good : (∀ e ∈ news.toList, TxE w e) ∧ (news.toList.map txE).Perm l ∧ l.Nodup) (bound : news.size < scanBound) (fit : tab'.fits news.size = true) (ris : Ris tab'.place.toList) (led : w.params.followText "set-order" = true ∨ tab'.led = true) {dummy : Bool} {R : Option Bool → Shared → Prop}
    (fin : ∀ h', Heap.SameBut a s.heap h' → TxSet w h' a l → R (some true) { s with heap := h' }) :
    wpAny (model P w) A (do
        storeSet a news tab'
        if (!dummy && tab'.tooFull) = true then do
            g (relayAll tab' news (SetTable.grown news.size)).2.2
            storeSet a (relayAll tab' news (SetTable.grown news.size)).1 (relayAll tab' news (SetTable.grown news.size)).2.1
            pure (some true)
          else pure (some true)) R E s := by
  have at1 := store_at (es' := news) (t' := tab') at0 hd
  have same1 := Heap.SameBut.update s.heap a (Obj.putSet news tab')
  refine wpAny_bind (wpAny_storeSet_of at0 hd ?_ (fits_of_scanBound bound))
  split
  case isFalse => exact wpAny_pure (fin _ same1 ⟨_, news, _, tab', at1, ex, rfl, good, bound, fit, ris, led⟩)
  case isTrue =>
    have perm := relayAll_perm tab' news (SetTable.grown news.size)
    have fit2 := relayAll_fits tab' news (SetTable.grown news.size)
    have ris2 := relayAll_ris tab' news (SetTable.grown news.size)
    have led2 := relayAll_led tab' news (SetTable.grown news.size)
    generalize relayAll tab' news (SetTable.grown news.size) = out at perm fit2 ris2 led2 ⊢
    obtain ⟨laid, tab2, gave⟩ := out
    dsimp only at perm fit2 ris2 led2 ⊢
    have size2 : laid.size = news.size := by
      have := perm.length_eq
      rwa [Array.length_toList, Array.length_toList] at this
    have bound2 : laid.size < scanBound := size2 ▸ bound
    refine wpAny_bind (quiet _ _ _ (wpAny_bind (wpAny_storeSet_of at1 rfl ?_ (fits_of_scanBound bound2))))
    refine wpAny_pure (fin _ (same1.trans (Heap.SameBut.update _ a _)) ⟨_, laid, _, tab2, store_at (es' := laid) (t' := tab2) at1 rfl, ex, rfl, ⟨fun e he => good.1 e (perm.mem_iff.mp he), (perm.map txE).trans good.2.1, good.2.2⟩, bound2, fit2, ris2, ?_⟩)
    rcases led with z | z
    · exact .inl z
    · exact .inr (led2.trans z)
theorem tx_add {x : Str} {tk : Tok} {Q : Bool → Shared → Prop} (R : TxSet w s.heap a l) (room : l.length + 1 < scanBound)
    (fin : ∀ (b : Bool) (h' : Heap), Heap.SameBut a s.heap h' → TxSet w h' a (addTx l x) → Q b { s with heap := h' }) :
    wpAny (model P w) A (setAddHashed a (.str x tk) ((strKind P w).hash x)) Q E s := by
  have ⟨ob, ents, ep, tab, at0, ex, hd, ⟨good, perm, nd⟩, bound, fit, ris, led⟩ := R
  have isx : (strKind P w).is x (.str x tk) = true := by
    show (x == x) = true
    exact beq_self_eq_true x
  have scan : (Value.str x tk).scannable = true := rfl
  have elems : ElemsOf (strKind P w) ents.toList := tx_elems good
  have len : ents.size = l.length := by
    have := perm.length_eq
    rwa [List.length_map, Array.length_toList] at this
  unfold setAddHashed setAddHashedIn
  refine wpAny_holding (wpAny_bind (wpAny_setState_of at0 hd fit ?_))
  dsimp only
  rw [byScan_of scan bound elems]
  simp only [↓reduceIte]
  unfold setAddByScan
  refine wpAny_bind (wpAny_bind (wpAny_rule (wpAny_bind (wpAny_setScan_of isx at0 hd fit elems ?_))))
  cases found : List.findIdx? (fun e => (strKind P w).is x e.2) ents.toList with
  | some j =>
    dsimp only
    obtain ⟨hj, pj, _⟩ := List.findIdx?_eq_some_iff_getElem.mp found
    have there : x ∈ l := perm.mem_iff.mp ((tx_mem (P := P) good x).mpr ⟨ents.toList[j], List.getElem_mem hj, pj⟩)
    have q := fin false s.heap (Heap.SameBut.refl a s.heap)
    unfold addTx at q
    rw [if_pos there] at q
    exact wpAny_pure (wpAny_pure (q R))
  | none =>
    dsimp only
    have absent : x ∉ ents.toList.map txE := fun z => by
      obtain ⟨e, he, q⟩ := (tx_mem (P := P) good x).mp z
      have := List.findIdx?_eq_none_iff.mp found e he
      rw [q] at this
      cases this
    have notin : x ∉ l := fun z => absent (perm.mem_iff.mpr z)
    have quiet : ∀ (b : Bool) {s1 : Shared} {Q1 : Unit → Shared → Prop}, Q1 () s1 → wpAny (model P w) A (match b with | true => rule "set.scan.the-table-gave-way" | false => pure ()) Q1 E s1 :=
      fun b s1 Q1 q => by cases b <;> first | exact wpAny_pure q | exact wpAny_rule q
    have lp := layNew_perm tab ents ((strKind P w).hash x) (.str x tk)
    have lf := layNew_fits tab ents ((strKind P w).hash x) (.str x tk)
    have lr := layNew_ris tab ents ((strKind P w).hash x) (.str x tk) ris
    have ll := layNew_led tab ents ((strKind P w).hash x) (.str x tk)
    generalize layNew tab ents ((strKind P w).hash x) (.str x tk) = out at lp lf lr ll ⊢
    obtain ⟨news, tab1, dummy, gave⟩ := out
    dsimp only at lp lf lr ll ⊢
    rw [Array.toList_push] at lp
    have pc : news.toList.Perm (ents.toList ++ [((strKind P w).hash x, Value.str x tk)]) := lp
    have good1 : ∀ e ∈ news.toList, TxE w e := fun e he => by
      rcases List.mem_append.mp (pc.mem_iff.mp he) with z | z
      · exact good e z
      · rw [List.mem_singleton.mp z]
        exact ⟨x, tk, rfl, rfl⟩
    have perm1 : (news.toList.map txE).Perm (l ++ [x]) := by
      have := pc.map txE
      rw [List.map_append] at this
      exact this.trans (perm.append_right _)
    have nd1 : (l ++ [x]).Nodup := by
      rw [List.nodup_append]
      refine ⟨nd, by simp, fun y hy z hz e => ?_⟩
      rw [List.mem_singleton.mp hz] at e
      exact notin (e ▸ hy)
    have size1 : news.size = l.length + 1 := by
      have := pc.length_eq
      rw [Array.length_toList, List.length_append, Array.length_toList, len] at this
      exact this
    have bound1 : news.size < scanBound := size1 ▸ room
    have led1 : w.params.followText "set-order" = true ∨ tab1.led = true := by
      rcases led with z | z
      · exact .inl z
      · exact .inr (ll.trans z)
    have eq : addTx l x = l ++ [x] := if_neg notin
    have last : ∀ h', Heap.SameBut a s.heap h' → TxSet w h' a (l ++ [x]) → Q true { s with heap := h' } := fun h' sb r => fin true h' sb (by rw [eq]; exact r)
    refine wpAny_bind (quiet _ ?_)
    split
    · refine wpAny_bind ?_
      rw [hashByValue_scannable 8 scan]
      refine wpAny_pure (tx_settle (l := l ++ [x]) ?_ at0 ex hd ⟨good1, perm1, nd1⟩ bound1 ?_ ?_ ?_ fun h' sb r => ?_)
      · intro b s1 Q1 q
        cases b <;> first | exact wpAny_pure q | exact wpAny_rule q
      · first | (split <;> first | exact lf | exact SetTable.fits_plain_off lf) | exact lf
      · first | (split <;> exact lr) | exact lr
      · first | (split <;> exact led1) | exact led1
      · dsimp only
        exact wpAny_pure (last h' sb r)
    · refine wpAny_bind (wpAny_pure ?_)
      simp only [↓reduceIte]
      refine tx_settle (l := l ++ [x]) ?_ at0 ex hd ⟨good1, perm1, nd1⟩ bound1 lf lr led1 fun h' sb r => ?_
      · intro b s1 Q1 q
        cases b <;> first | exact wpAny_pure q | exact wpAny_rule q
      · dsimp only
        exact wpAny_pure (last h' sb r)
end
/-! set(list) -/
theorem addTx_spec (l : List Str) (x : Str) : (l.Nodup → (addTx l x).Nodup) ∧ (∀ y, y ∈ addTx l x ↔ y ∈ l ∨ y = x) ∧ (addTx l x).length ≤ l.length + 1 := by
  unfold addTx
  split
  · rename_i h
    exact ⟨fun n => n, fun y => ⟨.inl, fun z => z.elim id (fun e => e ▸ h)⟩, by omega⟩
  · rename_i h
    refine ⟨fun n => ?_, fun y => by simp, by simp⟩
    rw [List.nodup_append]
    refine ⟨n, by simp, fun y hy z hz e => ?_⟩
    rw [List.mem_singleton.mp hz] at e
    exact h (e ▸ hy)
theorem addAll_spec : ∀ (r l : List Str), (l.Nodup → (addAll r l).Nodup) ∧ (∀ y, y ∈ addAll r l ↔ y ∈ l ∨ y ∈ r) ∧ (addAll r l).length ≤ l.length + r.length
  | [], l => ⟨id, fun y => by simp [addAll], by simp [addAll]⟩
  | x :: r, l => by
    obtain ⟨a1, a2, a3⟩ := addTx_spec l x
    obtain ⟨b1, b2, b3⟩ := addAll_spec r (addTx l x)
    refine ⟨fun n => b1 (a1 n), fun y => ?_, by simp only [addAll, List.length_cons]; omega⟩
    show y ∈ addAll r (addTx l x) ↔ _
    rw [b2, a2, List.mem_cons, or_assoc]
section
variable {prog : Program} {w : World} {A : Around} {R : Result → Shared → Prop} {I : Addr} {fp wr : List Addr} {G : Array GenState → Array GenState → Prop} {n : Nat} {Pv : Nat → Value → Prop} {St : Nat → Shared → Prop}
theorem tx_loop (W : WalksS prog w A.in1 I fp wr G n Pv St) (S : Addr) (hSf : S ∉ fp) (xs : List Str) (hn : xs.length = n) (hval : ∀ i v, Pv i v → ∃ x t, xs[i]? = some x ∧ v = .str x t) (hb : n + 1 < scanBound) :
    ∀ (rest pre l : List Str) (s : Shared), xs = pre ++ rest → l.length ≤ pre.length → St pre.length s → TxSet w s.heap S l →
      (∀ s', Moved (S :: wr) G s s' → TxSet w s'.heap S (addAll rest l) → R (.ok (.ret .none)) s') →
      codeAny (model prog w) A (.builtin "set.update.loop" ⟨[.ref S, .ref I], []⟩) R s := by
  have out : S ∉ wr := fun h => hSf (W.sub _ h)
  have sub : ∀ b ∈ wr, b ∈ S :: wr := fun b hb => List.mem_cons_of_mem _ hb
  intro rest
  induction rest with
  | nil =>
    intro pre l s e hl hst hS fin
    have hp : pre.length = n := by rw [← hn, e, List.append_nil]
    refine codeAny_builtin F.entry_set_update_loop ?_
    rw [Around.under_plainId F.plain_set_update_loop _]
    show wpAny _ A.in1 (pyNext (.ref I) >>= _) _ _ s
    refine wpAny_bind (W.done s _ _ (hp ▸ hst) fun s' moved => ?_)
    show wpAny _ A.in1 (ret Value.none) _ _ s'
    exact wpAny_pure (fin s' (moved.mono sub) (hS.keep fun o ho => moved.heap S o out ho))
  | cons x rest ih =>
    intro pre l s e hl hst hS fin
    have hlen : pre.length + (rest.length + 1) = n := by rw [← hn, e, List.length_append, List.length_cons]
    refine codeAny_builtin F.entry_set_update_loop ?_
    rw [Around.under_plainId F.plain_set_update_loop _]
    show wpAny _ A.in1 (pyNext (.ref I) >>= _) _ _ s
    refine wpAny_bind (W.item pre.length s _ _ (by omega) hst fun v s' hP hst' moved => ?_)
    obtain ⟨y, t, hy, rfl⟩ := hval _ v hP
    have ey : y = x := by
      rw [e] at hy
      simp at hy
      exact hy.symm
    subst ey
    have hS' : TxSet w s'.heap S l := hS.keep fun o ho => moved.heap S o out ho
    show wpAny _ A.in1 (holding [Value.str y t] (setAdd S (.str y t)) >>= _) _ _ s'
    refine wpAny_bind (wpAny_holding ?_)
    unfold setAdd
    refine wpAny_holding (wpAny_bind ((strKind prog w).pyHash (k := y) (by show (y == y) = true; exact beq_self_eq_true y) ?_))
    refine tx_add (s := { s' with toks := s'.toks + 1 }) hS' (by omega) fun b h' same hS2 => ?_
    have hl2 := (addTx_spec l y).2.2
    refine wpAny_pure ⟨plainId_quiet F.plain_set_update_loop _, ih (pre ++ [y]) (addTx l y) _ (by rw [e]; simp) (by rw [List.length_append, List.length_singleton]; omega) ?_ hS2 fun s2 moved2 hS3 => ?_⟩
    · rw [List.length_append, List.length_singleton]
      refine W.frame _ s' _ _ hst' (Nat.le_succ _) fun b hb o e => ?_
      rw [same.2 b (fun h : b = S => hSf (by rw [← h]; exact hb))]
      exact e
    · refine fin s2 (Moved.trans W.gtrans ((moved.mono sub).then_heap (Nat.le_succ _) fun b o hb e => ?_) moved2) hS3
      rw [same.2 b (fun h : b = S => hb (by rw [h]; exact List.mem_cons_self))]
      exact e
end
section
variable {P : Program} {w : World} {A : Around} {E : Value → Shared → Prop} {s : Shared}
abbrev freshSet (w : World) : Obj := { cls := .type "set", dict := none, data := .set #[] 0 (.fresh 0 0 (!w.params.followText "set-order")) }
theorem tx_made (a : Value) {Q1 : Value → Shared → Prop} (h : Q1 (.ref s.heap.objs.size) { s with heap := s.heap.push (freshSet w) }) :
    codeAny (model P w) A (.call (.builtin "set.__new__") ⟨[.type "set", a], []⟩) (wants Q1 E) s := by
  refine codeAny_of_tree ?_
  show wpAny _ A.in1 (do checkBuiltinCall "set.__new__" ⟨[.type "set", a], []⟩; again (.builtin "set.__new__" ⟨[.type "set", a], []⟩)) _ _ s
  refine wpAny_bind (wpAny_of_eq (F.newCall_set_1 a) (wpAny_pure ⟨plainId_quiet F.plain_set_new _, codeAny_builtin F.entry_set_new ?_⟩))
  rw [Around.under_plainId F.plain_set_new _]
  unfold Builtin.«set.__new__» Builtin.Frozenset.newClass
  have self := sub_set_self
  obtain ⟨hp, g, d, tk, os⟩ := s
  dsimp only
  wp_walk
  refine wpAny_askSetting (wpAny_pure ?_)
  dsimp only
  simp only [newObj]
  exact wpAny_bind (wpAny_alloc (wpAny_pure (wpAny_pure h)))
theorem tx_fresh {h : Heap} (w : World) : TxSet w (h.push (freshSet w)) h.objs.size [] :=
  ⟨_, #[], 0, _, Heap.get?_push_size _ rfl, ⟨rfl, rfl, rfl⟩, rfl, ⟨fun e he => by simp at he, by simp, List.nodup_nil⟩, by decide, by rfl, List.Pairwise.nil, by
    show _ ∨ (!w.params.followText "set-order") = true
    cases w.params.followText "set-order"
    · exact .inr rfl
    · exact .inl rfl⟩
set_option maxHeartbeats 4000000 in
theorem tx_set {lst : Addr} {items : Array Value} {xs : List Str} {Q : Value → Shared → Prop} (hh : A.handled = none) (hl : s.heap.IsList lst items) (len : xs.length = items.size) (hval : ∀ (i : Nat) (v : Value), items[i]? = some v → ∃ x t, xs[i]? = some x ∧ v = .str x t) (hb : items.size + 1 < scanBound)
    (fin : ∀ (h' : Heap) (tk : Nat), TxSet w h' s.heap.objs.size (addAll xs []) → (∀ b o, b < s.heap.objs.size → s.heap.get? b = some o → h'.get? b = some o) → Q (.ref s.heap.objs.size) { s with heap := h', toks := tk }) :
    wpAny (model P w) A (call (.type "set") [.ref lst]) Q E s := by
  obtain ⟨c, tl, hmro⟩ := F.called_set.mro
  have hmade := F.called_set.made
  have hsub := F.called_set.sub
  refine wpAny_call (codeAny_of_tree ?_)
  show wpAny _ _ (callAny (.type "set") _) _ _ _
  refine wpAny_pure ⟨Code.quiet_builtin _ (by decide +kernel), codeAny_builtin F.entry_type_call ?_⟩
  rw [Around.under_plain (weight_type_call_type "set" [.ref lst] []) rfl]
  have h1 := F.called_set.notType
  have h2 := F.called_set.canCreate
  have hct := F.typeCall_set_1 (.ref lst)
  repeat (any_goals (first | assumption | wp_step))
  refine codeAny_mono (tx_made (.ref lst) (E := E) (Q1 := fun obj s1 => obj = .ref s.heap.objs.size ∧ s1 = { s with heap := s.heap.push (freshSet w) }) ⟨rfl, rfl⟩) fun r s1 hr => ?_
  cases r with
  | error e => exact hr
  | ok fl =>
    cases fl with
    | ret obj =>
      obtain ⟨rfl, rfl⟩ := hr
      have atS : (s.heap.push (freshSet w)).get? s.heap.objs.size = some (freshSet w) := Heap.get?_push_size _ rfl
      have hT : Shared.TypeIs { s with heap := s.heap.push (freshSet w) } (.ref s.heap.objs.size) "set" := ⟨_, atS, rfl⟩
      have hli := F.called_set.init.lookup
      have hbi := F.called_set.init.bind (.ref s.heap.objs.size)
      repeat (any_goals (first | assumption | wp_step))
      refine codeAny_mono (codeAny_call_builtin (R := wants (fun r s2 => r = .none ∧ ∃ h' tk, s2 = { s with heap := h', toks := tk } ∧ TxSet w h' s.heap.objs.size (addAll xs []) ∧
          (∀ b o, b < s.heap.objs.size → s.heap.get? b = some o → h'.get? b = some o)) E) F.called_set.init.plain F.entry_set_init (check_set_init_1 hT ?_)) fun r2 s2 hr2 => ?_
      · obtain ⟨ol, hol, hcl, nl, hdl⟩ := hl
        obtain ⟨ocls, odict, odata, oslots⟩ := ol
        simp only at hcl hdl
        subst hcl hdl
        have hol' : (s.heap.push (freshSet w)).get? lst = some { cls := .type "list", dict := odict, data := .seq items nl, slots := oslots } := Heap.get?_push_of_some _ hol
        have no1 := F.sub_list_set
        have no2 := F.sub_list_frozenset
        have no3 : (Value.type "list" == Value.type "dict") = false := by decide
        have isl : (s.heap.push (freshSet w)).IsList lst items := ⟨_, hol', rfl, nl, rfl⟩
        unfold Builtin.«set.__init__» noKeywords Builtin.Frozenset.updateFrom
        generalize hPI : pyIter = PI
        wp_walk
        subst hPI
        refine wpAny_pyIter_list isl ?_
        refine wpAny_bind (wpAny_runValue ?_)
        have below : lst < s.heap.objs.size := Heap.lt_size hol
        have hh3 : A.in1.in1.in1.handled = none := by simp [hh]
        have apart : lst ≠ (s.heap.push (freshSet w)).objs.size := by
          rw [Heap.size_push]
          exact Nat.ne_of_lt (Nat.lt_succ_of_lt below)
        have apart2 : s.heap.objs.size ∉ [(s.heap.push (freshSet w)).objs.size, lst] := by
          rw [Heap.size_push]
          simp only [List.mem_cons, List.not_mem_nil, or_false, not_or]
          exact ⟨Nat.ne_of_lt (Nat.lt_succ_self _), Nat.ne_of_gt below⟩
        refine tx_loop (R := _) ((Walks.list hh3 _ lst apart items).toS) s.heap.objs.size apart2 xs len hval hb xs [] [] _ rfl (Nat.le_refl _)
          ⟨⟨_, Heap.get?_push_size _ rfl, rfl, rfl⟩, (isl.push _)⟩ ?start ?finish
        case start => exact (tx_fresh w).keep fun o ho => Heap.get?_push_of_some _ ho
        case finish =>
          intro s' moved hS'
          obtain ⟨h', g', d', tk', os'⟩ := s'
          have eg : g' = s.gens := moved.gens
          have ed : d' = s.drawn := moved.drawn
          have eo : os' = s.os := moved.os
          subst eg ed eo
          show wpAny _ _ _ _ _ _
          refine wpAny_pure ?_
          show wpAny _ _ (ret Value.none) _ _ _
          refine wpAny_pure ⟨rfl, h', tk', rfl, hS', fun b o hb e => moved.heap b o ?_ (Heap.get?_push_of_some _ (Heap.get?_push_of_some _ e))⟩
          rw [Heap.size_push]
          simp only [List.mem_cons, List.not_mem_nil, or_false, not_or]
          exact ⟨Nat.ne_of_lt hb, Nat.ne_of_lt (Nat.lt_succ_of_lt hb)⟩
      · cases r2 with
        | error e => exact hr2
        | ok fl2 =>
          cases fl2 with
          | ret r =>
            obtain ⟨rfl, h', tk, rfl, hS', kept⟩ := hr2
            repeat (any_goals (first | assumption | wp_step))
            exact fin _ _ hS' kept
          | _ => exact hr2.elim
    | _ => exact hr.elim
/-- sorted(set) -/
theorem tx_sorted {a : Addr} {l : List Str} {Q : Value → Shared → Prop} (R : TxSet w s.heap a l) (hh : A.handled = none) (h64 : l.length < 64)
    (fin : ∀ s' p (out : Array Value) (c : Nat) (ys : List Str), (∀ b o, s.heap.get? b = some o → s'.heap.get? b = some o) → s'.gens = s.gens → s'.os = s.os → s.heap.objs.size ≤ p →
      s'.heap.get? p = some (seqObj "list" out c) → StrsAre out.toList ys → ys.Perm l → sortedS ys = true → Q (.ref p) s') :
    wpAny (model P w) A (call (.builtin "sorted") [.ref a]) Q E s := by
  obtain ⟨ob, ents, ep, tab, at0, ex, hd, ⟨good, perm, nd⟩, bound, fit, ris, led⟩ := R
  have len : ents.size = l.length := by
    have := perm.length_eq
    rwa [List.length_map, Array.length_toList] at this
  refine Calls.call_function_entry PyProof.Rows.kind_sorted PyProof.Rows.plain_sorted PyProof.Rows.entry_sorted (PyProof.Rows.args_sorted1 _) ?_
  unfold Builtin.«sorted»
  refine wpAny_bind (m := checkCount "sorted" 1 1 _) (wpAny_pure ?_)
  refine wpAny_bind (collect_set (A := A.in1) hh ⟨ob, at0, ex.1, hd⟩ fit bound ris led fun s1 vs k1 hz g1 o1 pm => ?_)
  have hvl : vs.length = l.length := by
    rw [pm.length_eq, List.length_map, Array.length_toList]
    exact len
  have hS : StrsAre vs (vs.map fun v => txE (0, v)) := strs_at (by rw [List.length_map]) fun j v hj => by
    have hv : v ∈ vs := List.mem_of_getElem? hj
    obtain ⟨e, he, q⟩ := List.mem_map.mp (pm.mem_iff.mp hv)
    obtain ⟨x, t, e1, _⟩ := good e he
    have ev : v = .str x t := by rw [← q]; exact e1
    refine ⟨x, t, ?_, ev⟩
    rw [List.getElem?_map, hj, ev]
    rfl
  have pk : (vs.map fun v => txE (0, v)).Perm l := by
    have q := pm.map fun v => txE (0, v)
    rw [List.map_map] at q
    exact q.trans perm
  refine wpAny_bind (wpAny_newList ?_ (by rw [hvl, sizeLine_eq]; omega))
  have hoL : (s1.heap.push (seqObj "list" vs.toArray 0)).get? s1.heap.objs.size = some (seqObj "list" vs.toArray 0) := Heap.get?_push_size _ rfl
  refine wpAny_bind (wpAny_holding (wpAny_call_entry PyProof.Rows.slot_list_sort ⟨_, hoL, rfl⟩ PyProof.Rows.entry_list_sort
    (list_sort_treeK strKind_oneLt hoL hS.keysOf (fun v1 v2 rest e => keyKind_strs (by rw [← e]; exact hS)) (by rw [hvl]; exact h64) fun st' hp hs => ⟨_, rfl, ?_⟩)
    (PyProof.Rows.args_list_sort _)))
  obtain ⟨ys, y1, y2, y3⟩ := sorted_out_str hS hp hs
  obtain ⟨c, hc⟩ := PyProof.Rows.sortedHeap_at (vs := vs) (out := (arrOf st').map (·.2)) hoL
  refine wpAny_pure ⟨_, rfl, fin _ s1.heap.objs.size _ c ys (fun b u e => ?_) g1 o1 hz hc y1 (y2.trans pk) y3⟩
  have q := k1 b u e
  have hlt := Heap.lt_size q
  show (PyProof.Rows.sortedHeap (s1.heap.push (seqObj "list" vs.toArray 0)) s1.heap.objs.size vs _).get? b = some u
  rw [PyProof.Rows.sortedHeap_old (Nat.ne_of_lt hlt) (by rw [size_push']; exact Nat.lt_succ_of_lt hlt)]
  exact Heap.get?_push_of_some _ q
end
end Vy
set_option maxHeartbeats 2000000
/-! sets of texts, dicts by keys that are texts or ints: in the layer -/
namespace Vy
open PySem PySem.Spec PyProof.Rows L2
/-! ### one order of texts -/
theorem ltC_irr : ∀ a : List Nat, ltCps a a = false
  | [] => rfl
  | x :: a => by
    unfold ltCps
    rw [ltC_irr a]
    simp
theorem ltC_anti : ∀ a b : List Nat, ltCps a b = false → ltCps b a = false → a = b
  | [], [], _, _ => rfl
  | [], _ :: _, h, _ => by cases h
  | _ :: _, [], _, h => by cases h
  | x :: a, y :: b, h1, h2 => by
    unfold ltCps at h1 h2
    simp only [Bool.or_eq_false_iff, decide_eq_false_iff_not, Bool.and_eq_false_iff, beq_eq_false_iff_ne] at h1 h2
    have e : x = y := by omega
    subst e
    have k1 : ltCps a b = false := h1.2.elim (fun z => absurd rfl z) id
    have k2 : ltCps b a = false := h2.2.elim (fun z => absurd rfl z) id
    rw [ltC_anti a b k1 k2]
theorem ltC_le_trans : ∀ a b c : List Nat, ltCps b a = false → ltCps c b = false → ltCps c a = false
  | [], _, [], _, _ => rfl
  | _ :: _, _, [], h1, h2 => by
    rename_i x a b
    cases b with
    | nil => cases h1
    | cons y b => cases h2
  | [], [], _ :: _, _, _ => rfl
  | [], _ :: _, _ :: _, _, _ => rfl
  | x :: a, [], z :: c, h1, _ => by cases h1
  | x :: a, y :: b, z :: c, h1, h2 => by
    unfold ltCps at h1 h2 ⊢
    simp only [Bool.or_eq_false_iff, decide_eq_false_iff_not, Bool.and_eq_false_iff, beq_eq_false_iff_ne] at h1 h2 ⊢
    refine ⟨by omega, ?_⟩
    by_cases e : z = x
    · right
      subst e
      have e2 : y = z := by omega
      subst e2
      exact ltC_le_trans a b c (h1.2.elim (fun z => absurd rfl z) id) (h2.2.elim (fun z => absurd rfl z) id)
    · exact .inl e
abbrev leS (a b : Str) : Prop := ltCps b.cps.toList a.cps.toList = false
theorem insS_perm (a : Str) : ∀ l, (insS a l).Perm (a :: l)
  | [] => .refl _
  | b :: l => by
    unfold insS
    split
    · exact ((insS_perm a l).cons b).trans (.swap a b l)
    · exact .refl _
theorem sortS_perm : ∀ l, (sortS l).Perm l
  | [] => .refl _
  | a :: l => (insS_perm a _).trans ((sortS_perm l).cons a)
theorem ltC_or (a b : List Nat) (h : ltCps a b = true) : ltCps b a = false := by
  cases k : ltCps b a with
  | false => rfl
  | true =>
    induction a generalizing b with
    | nil => cases b <;> cases k
    | cons x a ih =>
      cases b with
      | nil => cases h
      | cons y b =>
        unfold ltCps at h k
        simp only [Bool.or_eq_true, decide_eq_true_eq, Bool.and_eq_true, beq_iff_eq] at h k
        rcases h with h | ⟨rfl, h⟩
        · rcases k with k | ⟨rfl, _⟩ <;> omega
        · rcases k with k | ⟨_, k⟩
          · omega
          · exact absurd (ih b h k) (by simp [k] at *)
theorem insS_sorted (a : Str) : ∀ {l}, l.Pairwise leS → (insS a l).Pairwise leS
  | [], _ => List.pairwise_singleton _ _
  | b :: l, h => by
    obtain ⟨h1, h2⟩ := List.pairwise_cons.mp h
    unfold insS
    split
    · rename_i c
      refine List.pairwise_cons.mpr ⟨fun q hq => ?_, insS_sorted a h2⟩
      rcases List.mem_cons.mp ((insS_perm a l).mem_iff.mp hq) with e | hq
      · rw [e]
        exact ltC_or _ _ c
      · exact h1 q hq
    · rename_i c
      have c' : leS a b := by simpa using c
      refine List.pairwise_cons.mpr ⟨fun q hq => ?_, h⟩
      rcases List.mem_cons.mp hq with e | hq
      · rw [e]; exact c'
      · exact ltC_le_trans _ _ _ c' (h1 q hq)
theorem sortS_sorted : ∀ l, (sortS l).Pairwise leS
  | [] => .nil
  | a :: l => insS_sorted a (sortS_sorted l)
theorem str_ext {a b : Str} (h : a.cps.toList = b.cps.toList) : a = b := by
  cases a
  cases b
  congr
  exact Array.toList_inj.mp h
theorem rising_pair : ∀ (p : Str) (l : List Str), risingS p l = true → (p :: l).Pairwise leS
  | p, [], _ => List.pairwise_singleton _ _
  | p, x :: r, h => by
    unfold risingS at h
    simp only [Bool.and_eq_true, Bool.not_eq_true'] at h
    have ih := rising_pair x r h.2
    refine List.pairwise_cons.mpr ⟨fun q hq => ?_, ih⟩
    rcases List.mem_cons.mp hq with e | hq
    · rw [e]; exact h.1
    · exact ltC_le_trans _ _ _ h.1 ((List.pairwise_cons.mp ih).1 q hq)
theorem sortS_uniq {ys xs : List Str} (p : ys.Perm xs) (h : sortedS ys = true) : ys = sortS xs := by
  have hp : ys.Pairwise leS := by
    cases ys with
    | nil => exact .nil
    | cons y r => exact rising_pair y r h
  exact List.Perm.eq_of_pairwise (le := leS) (fun a b _ _ h1 h2 => str_ext (ltC_anti _ _ h2 h1)) hp (sortS_sorted xs) (p.trans (sortS_perm xs).symm)
section
variable {X : Cx}
/-! ### the set's object -/
def SetSO (w : World) (a : Addr) (l : List Str) : HO := .ext fun h => TxSet w h a l
theorem txset_new {w : World} {P : Program} {H : Hp} {h : Heap} {a : Addr} {l : List Str} (R : TxSet w h a l) : ObjOk P w H h a (SetSO w a l) := by
  have ⟨ob, _, _, _, ho, _⟩ := R
  exact ⟨R, ⟨ob, ho⟩, fun h1 h2 p k => TxSet.keep p k⟩
def rSetL (K : PySem.W.Frag) (w : World) : List V → Hp → VK → Prop := fun vs H Q => ∃ (a : Addr) (xs : List Str), vs = [V.ref a] ∧ SqL K H a (xs.map V.str) ∧ xs.length < 64 ∧ ∀ p, H p = none → Q (.ref p) (upd H p (SetSO w p (addAll xs [])))
theorem vals_txt : ∀ {xs : List Str} {us : List Value}, Vals (xs.map V.str) us → ∀ (i : Nat) (v : Value), us[i]? = some v → ∃ x t, xs[i]? = some x ∧ v = .str x t
  | [], _, .nil, i, v, h => by simp at h
  | x :: xs, u :: us, .cons r rs, 0, v, h => by
    obtain ⟨t, rfl⟩ := r
    cases h
    exact ⟨x, t, rfl, rfl⟩
  | x :: xs, u :: us, .cons r rs, i + 1, v, h => vals_txt rs i v h
theorem cr_setL (hc : X.calm = true) : CallR X (.type "set") (rSetL X.K X.w) := by
  intro pins s σ H vs us Q I r h
  obtain ⟨a, xs, rfl, hs, h64, q⟩ := h
  obtain ⟨its, rv, hl, _⟩ := I.list hs
  rw [Vals.ref1 r]
  have len : xs.length = its.length := by
    have := rv.length
    rwa [List.length_map] at this
  refine tx_set (xs := xs) (I.ok.hd hc) hl.isList (by rw [List.size_toArray]; exact len) (fun i v hv => vals_txt rv i v (by rw [List.getElem?_toArray] at hv; exact hv)) (by rw [List.size_toArray, ← len]; unfold scanBound; omega) fun h' tk R kept => ?_
  refine ⟨.ref _, upd H s.heap.objs.size (SetSO X.w s.heap.objs.size (addAll xs [])), I.laid (t' := tk) (fun b o e => kept b o (Heap.lt_size e) e) (Nat.le_refl _) (txset_new R), rfl, q _ (I.hok.fresh (Nat.le_refl _))⟩
def rSortSet (w : World) : List V → Hp → VK → Prop := fun vs H Q => ∃ (a : Addr) (l : List Str), vs = [V.ref a] ∧ H a = some (SetSO w a l) ∧ l.length < 64 ∧ ∀ p, H p = none → Q (.ref p) (upd H p (.lst ((sortS l).map V.str)))
theorem cr_sortSet (hc : X.calm = true) : CallR X (.builtin "sorted") (rSortSet X.w) := by
  intro pins s σ H vs us Q I r h
  obtain ⟨a, l, rfl, hs, h64, q⟩ := h
  have R : TxSet X.w s.heap a l := (I.hok a _ hs).1
  rw [Vals.ref1 r]
  refine tx_sorted R (I.ok.hd hc) h64 fun s' p out c ys kept eg eo big hp hS pm so => ?_
  have hy := sortS_uniq pm so
  have lz : (ys.map V.str).length ≤ sizeLine := by
    rw [List.length_map, pm.length_eq, sizeLine_eq]
    omega
  have hn : H p = none := I.hok.fresh big
  have J : Inv X pins σ (upd H p (.lst (ys.map V.str))) { s with heap := s'.heap, gens := s'.gens, drawn := s'.drawn, toks := s'.toks } :=
    I.call (ch := []) (Un.laid kept big hn) (I.hok.laid kept big ⟨lz, out.toList, c, vals_of_strs hS, by rw [Array.toArray_toList]; exact hp⟩) (by rw [eg]; exact I.bare) (fun _ z => nomatch z)
  have same : s' = { s with heap := s'.heap, gens := s'.gens, drawn := s'.drawn, toks := s'.toks } := by
    cases s'
    cases s
    cases eo
    rfl
  rw [same]
  refine ⟨.ref p, _, J, rfl, ?_⟩
  rw [hy]
  exact q p hn
theorem boot_set' : bootBuiltins "set" = some (.type "set") := by decide +kernel
theorem strs_rw {K : PySem.W.Frag} {mg : Str → Option Value} {ρ : List Addr} {H : Hp} : ∀ xs : List Str, RWs K mg ρ H (xs.map Va.str) (xs.map V.str)
  | [] => .nil
  | x :: xs => .cons (.str x) (strs_rw xs)
theorem strs_of {K : PySem.W.Frag} {mg : Str → Option Value} {ρ : List Addr} {H : Hp} : ∀ {ws : List Va} {vs : List V} {xs : List Str}, strsV ws = some xs → RWs K mg ρ H ws vs → vs = xs.map V.str
  | [], _, xs, e, .nil => by cases e; rfl
  | w :: ws, _, xs, e, .cons r rs => by
    cases w with
    | str x =>
      have e : (strsV ws).map (x :: ·) = some xs := e
      obtain ⟨l, e1, rfl⟩ := Option.map_eq_some_iff.mp e
      rw [strs_of e1 rs, rw_str r]
      rfl
    | _ => cases e
theorem s_sss {p p2 q1 q2 : Pos} {a : Expr} {ma : Sg → Hm → Res Va} (hc : X.calm = true) (hg : Gl X "sorted") (hm : X.mg "sorted" = none) (hg2 : Gl X "set") (hm2 : X.mg "set" = none) (ha : PE X a (tX X.K X.mg ma)) (hs : starEach [a] X.env = (false, eval a X.env) :: starEach [] X.env) :
    PE X (.Call (.Name "sorted" p) [.Call (.Name "set" p2) [a] [] q2] [] q1) (tX X.K X.mg fun σ h => (ma σ h).bind fun x h1 => sssV x h1) := by
  refine imp_e (pe_callB (cr_sortSet hc) hg hm boot_sorted' (pa_cons (pe_callTy (cr_setL hc) hg2 hm2 boot_set' (pa_cons ha pa_nil hs) (by decide) (by decide) hs (by rfl)) pa_nil (by rfl)) (by decide) (by decide) (by rfl) (by rfl)) fun σ H Q q => ?_
  obtain ⟨ρ, σw, h, w, h', rs, rh, e, q⟩ := q
  obtain ⟨x, h1, e1, e⟩ := bind_eq_ok e
  refine ⟨ρ, σw, h, x, h1, rs, rh, e1, fun ρ1 H1 v f1 rh1 rv => ?_⟩
  unfold sssV at e
  split at e
  case h_2 => cases e
  rename_i n
  split at e
  case h_2 => cases e
  rename_i xs hx
  split at e
  case isFalse => cases e
  rename_i h64
  obtain ⟨hz, rfl, rfl⟩ := newL_ok e
  obtain ⟨ws, hw, hx⟩ := Option.bind_eq_some_iff.mp hx
  obtain ⟨a0, rfl, ea⟩ := rw_ref rv
  obtain ⟨vs, sq, rr⟩ := rh1.seq hw ea
  have ev := strs_of hx rr
  subst ev
  have hl := (addAll_spec xs []).2.2
  refine ⟨a0, xs, rfl, sq, h64, fun p0 hp0 => ?_⟩
  refine ⟨p0, addAll xs [], rfl, upd_same, by simp at hl; omega, fun p3 hp3 => ?_⟩
  obtain ⟨f2, rh2⟩ := rh1.aside (o := SetSO X.w p0 (addAll xs [])) hp0
  exact QV.lst (fun ρ2 H2 v2 f3 rh3 rv3 => q ρ2 H2 v2 (f1.trans (f2.trans f3)) rh3 rv3) rh2 (strs_rw _) hp3
end
/-! ### {key: True for ..}, keys ints or texts -/
def dkE (ks : List L2.Key) : List (L2.Key × V) := ks.map fun k => (k, V.bl true)
theorem put_true (ks : List L2.Key) (k : L2.Key) : L2.putK (dkE ks) k (V.bl true) = dkE (addKey ks k) := by
  have any : ((dkE ks).any fun kv => decide (kv.1 = k)) = ks.any fun y => decide (y = k) := by
    unfold dkE
    rw [List.any_map]
    rfl
  unfold L2.putK addKey
  rw [any]
  split
  · unfold dkE
    rw [List.map_map]
    refine List.map_congr_left fun y _ => ?_
    show (if y = k then (y, V.bl true) else (y, V.bl true)) = _
    split <;> rfl
  · unfold dkE
    rw [List.map_append]
    rfl
theorem keyV_rw {K : PySem.W.Frag} {mg : Str → Option Value} {ρ : List Addr} {H : Hp} {x : Va} {k : L2.Key} {v : V} (e : keyV x = some k) (r : RW K mg ρ H x v) : v = kV k := by
  cases x with
  | int i => cases e; exact rw_int r
  | str s => cases e; exact rw_str r
  | _ => cases e
section
variable {K : PySem.W.Frag} {mg : Str → Option Value} {ρ : List Addr} {H : Hp} {h : Hm}
theorem dk_step {ρ1 : List Addr} {H1 : Hp} (f : Fut K ρ1 H1 ρ H) (r : RH K mg ρ H h) {p : Addr} {kvs kvs' : List (L2.Key × V)} (h1 : H1 p = none) (hp : H p = some (.dK kvs)) :
    Fut K ρ1 H1 ρ (upd H p (.dK kvs')) ∧ RH K mg ρ (upd H p (.dK kvs')) h := by
  have ne : ∀ {a : Addr} {o : HO}, H a = some o → (∀ q, o ≠ .dK q) → upd H p (.dK kvs') a = some o := fun {a o} e n => by
    rw [upd_ne]
    · exact e
    · intro z
      rw [z, hp] at e
      exact n kvs (Option.some.inj e).symm
  have tp : ∀ a vs, SqT K H a vs → SqT K (upd H p (.dK kvs')) a vs := fun a vs s => by
    rcases s with (s | ⟨u, s⟩) | s
    · exact .inl (.inl (ne s (fun _ z => by cases z)))
    · exact .inl (.inr ⟨u, ne s (fun _ z => by cases z)⟩)
    · exact .inr s
  refine ⟨⟨f.pre, fun a vs s => tp a vs (f.tup a vs s), fun a o k e => ?_⟩, ⟨r.len, r.nod, fun i c a e1 e2 => ?_⟩⟩
  · rw [upd_ne (fun z => by rw [z, h1] at e; cases e)]
    exact f.ext a o k e
  · have rc := r.at_ i c a e1 e2
    cases c with
    | lst ws =>
      obtain ⟨vs, e, q⟩ := rc
      exact ⟨vs, ne e (fun _ z => by cases z), RWs.map tp q⟩
    | frz ws =>
      obtain ⟨vs, e, q⟩ := rc
      refine ⟨vs, ?_, RWs.map tp q⟩
      rcases e with ⟨o, e⟩ | e
      · exact .inl ⟨o, ne e (fun _ z => by cases z)⟩
      · exact .inr e
    | kd ks => exact ne rc (fun _ z => by cases z)
end
section
variable {X : Cx} {kx vx tg iter : Expr} {scope : Scope} {own : List (Str × Nat)} {pos p p2 : Pos} {t : Tg} {mi : Sg → Hm → Res Src} {mk : Sg → Hm → Res Va}
/-- what the block of such a dict asks -/
theorem dc_read {K : PySem.W.Frag} {mg : Str → Option Value} {own : List (Str × Nat)} {σ : L2.St} {H : Hp} {Q : VK} (hsl : ∀ j ∈ t.slots, j ∈ own.map (·.2)) {ρ : List Addr} {σw : Sg} {h h1 h2 : Hm} {S : Src} {acc : List L2.Key}
    (rs : RS K mg ρ H σw σ) (rh : RH K mg ρ H h) (e1 : mi σw h = .ok S h1) (e2 : dcL S.held t mk (wipeS σw (own.map (·.2))) S.items [] h1 = .ok acc h2)
    (q : ∀ ρ2 H2 D, Fut K ρ H ρ2 H2 → RH K mg ρ2 H2 h2 → H2 D = some (.dK (dkE acc)) → Q (.ref D) H2) :
    tDc (tI K mg mi) (tGo K mg t) (fun _ H Q => Q true H) (tX K mg mk) (tC (.bl true)) (own.map (·.2)) σ H Q := by
  refine ⟨ρ, σw, h, S, h1, rs, rh, e1, fun ρ1 H1 J f1 rh1 wk D hD => ?_⟩
  obtain ⟨f2, rh2⟩ := rh1.aside (o := .dK []) hD
  refine ⟨fun i m Hc => m = S.items.length - i ∧ i ≤ S.items.length ∧ ∃ ρc hc L, Fut K ρ1 H1 ρc Hc ∧ RH K mg ρc Hc hc ∧ Hc D = some (.dK (dkE L)) ∧ dcL S.held t mk (wipeS σw (own.map (·.2))) (S.items.drop i) L hc = .ok acc h2,
    ⟨S.items.length, rfl, Nat.zero_le _, ρ1, h1, [], f2, rh2, upd_same, e2⟩, ?_⟩
  rintro i m Hc ⟨rfl, hi', ρc, hc, L, fc, rhc, hDc, ec⟩
  have rsc : RS K mg ρc Hc σw σ := rs.fut (f1.trans fc)
  by_cases hlt : i < S.items.length
  · obtain ⟨w, hw⟩ : ∃ w, S.items[i]? = some w := ⟨_, List.getElem?_eq_getElem hlt⟩
    have hdrop : S.items.drop i = w :: S.items.drop (i + 1) := by
      rw [List.drop_eq_getElem_cons hlt]
      rw [List.getElem?_eq_getElem hlt] at hw
      rw [Option.some.inj hw]
    rw [hdrop] at ec
    unfold dcL at ec
    split at ec
    case isFalse => cases ec
    rename_i held
    split at ec
    case h_2 => cases ec
    rename_i σ1 g
    obtain ⟨x, ha, ek, ec⟩ := bind_eq_ok ec
    split at ec
    case h_2 => cases ec
    rename_i k hk
    split at ec
    case isFalse => cases ec
    rename_i hzl
    obtain ⟨wk1, _⟩ := wk ρc Hc hc i fc rhc held
    obtain ⟨go, yld⟩ := wk1 w hw
    refine .inr ⟨go, fun Hn => i + 1 ≤ S.items.length ∧ ∃ ρn hn Ln, Fut K ρ1 H1 ρn Hn ∧ RH K mg ρn Hn hn ∧ Hn D = some (.dK (dkE Ln)) ∧ dcL S.held t mk (wipeS σw (own.map (·.2))) (S.items.drop (i + 1)) Ln hn = .ok acc h2,
      fun H' ⟨l, z⟩ => ⟨S.items.length - (i + 1), by omega, rfl, l, z⟩, fun xv H' y => ?_⟩
    obtain ⟨f3, rh3, rx⟩ := yld xv H' y
    refine ⟨ρc, wipeS σw (own.map (·.2)), w, σ1, (rsc.fut f3).wipe _, rx, g, fun σ2 rs2 k2 => ⟨wipe_same (by
      have l1 := rs2.1
      have l2 : σ1.length = (wipeS σw (own.map (·.2))).length := setT_len _ _ _ _ g
      have l3 := ((rsc.fut f3).wipe (own.map (·.2))).1
      rw [← l1, l2, l3, L2.wipe_length]) hsl k2, ?_⟩⟩
    show tX K mg mk σ2 H' _
    refine ⟨ρc, σ1, hc, x, ha, rs2, rh3, ek, fun ρ5 H5 v5 f5 rh5 rv5 => ?_⟩
    have e5 := keyV_rw hk rv5
    subst e5
    have hD5 := (f3.trans f5).ext _ _ rfl hDc
    refine ⟨dkE L, k, rfl, hD5, by unfold dkE; rw [List.length_map]; exact hzl, by omega, ?_⟩
    obtain ⟨f6, rh6⟩ := dk_step (kvs' := dkE (addKey L k)) (fc.trans (f3.trans f5)) rh5 hD hD5
    rw [put_true]
    exact ⟨ρ5, ha, addKey L k, f6, rh6, upd_same, ec⟩
  · have hi2 : i = S.items.length := by omega
    subst hi2
    rw [List.drop_length] at ec
    unfold dcL at ec
    split at ec
    case isFalse => cases ec
    rename_i held
    cases ec
    obtain ⟨_, wk2⟩ := wk ρc Hc _ _ fc rhc held
    exact .inl ⟨wk2 rfl, q ρc Hc D (f1.trans fc) rhc hDc⟩
theorem dcBlk (c : Cal X) (hN : X.N.Nodup) (hi : PI X tg iter (tI X.K X.mg mi)) (ok : BlkOk X.N X.env.scope scope own)
    (hg : ∀ (s : Shared) (H : Hp) (C : Addr) (cl : List (Str × Addr)) (fp : List Addr), PG (X.blk s H scope (compEnvC scope cl C X.env) fp) tg (tGo X.K X.mg t))
    (hk : ∀ (s : Shared) (H : Hp) (C : Addr) (cl : List (Str × Addr)) (fp : List Addr), PE (X.blk s H scope (compEnvC scope cl C X.env) fp) kx (tX X.K X.mg mk))
    (hv : ∀ (s : Shared) (H : Hp) (C : Addr) (cl : List (Str × Addr)) (fp : List Addr), PE (X.blk s H scope (compEnvC scope cl C X.env) fp) vx (tC (.bl true))) (hs : ∀ x, foldedSetIterable iter X.env x = pure x) :
    PE X (.DictComp kx vx [⟨tg, iter, [], 0⟩] scope pos) (tDc (tI X.K X.mg mi) (tGo X.K X.mg t) (fun _ H Q => Q true H) (tX X.K X.mg mk) (tC (.bl true)) (own.map (·.2))) :=
  pe_dc c.calm hN hi ok hg (fun _ _ _ _ _ => pts_nil) hk hv hs
noncomputable def dcR (own : List Nat) (t : Tg) (mi : Sg → Hm → Res Src) (mk : Sg → Hm → Res Va) (fin : List L2.Key → Hm → Res Va) : Sg → Hm → Res Va := fun σ h => (mi σ h).bind fun s h1 => (dcL s.held t mk (wipeS σ own) s.items [] h1).bind fun acc h2 => fin acc h2
theorem keyTxs_ok : ∀ {acc : List L2.Key} {xs : List Str}, keyTxs acc = some xs → acc = xs.map Sum.inr
  | [], _, e => by cases e; rfl
  | .inr x :: r, xs, e => by
    have e : (keyTxs r).map (x :: ·) = some xs := e
    obtain ⟨l, e1, rfl⟩ := Option.map_eq_some_iff.mp e
    rw [keyTxs_ok e1]
    rfl
  | .inl _ :: _, _, e => by cases e
theorem s_sds (c : Cal X) (hN : X.N.Nodup) (hg0 : Gl X "sorted") (hm0 : X.mg "sorted" = none) (hi : PI X tg iter (tI X.K X.mg mi)) (ok : BlkOk X.N X.env.scope scope own) (hsl : ∀ j ∈ t.slots, j ∈ own.map (·.2))
    (hg : ∀ (s : Shared) (H : Hp) (C : Addr) (cl : List (Str × Addr)) (fp : List Addr), PG (X.blk s H scope (compEnvC scope cl C X.env) fp) tg (tGo X.K X.mg t))
    (hk : ∀ (s : Shared) (H : Hp) (C : Addr) (cl : List (Str × Addr)) (fp : List Addr), PE (X.blk s H scope (compEnvC scope cl C X.env) fp) kx (tX X.K X.mg mk))
    (hv : ∀ (s : Shared) (H : Hp) (C : Addr) (cl : List (Str × Addr)) (fp : List Addr), PE (X.blk s H scope (compEnvC scope cl C X.env) fp) vx (tC (.bl true))) (hs : ∀ x, foldedSetIterable iter X.env x = pure x) :
    PE X (.Call (.Name "sorted" p) [.DictComp kx vx [⟨tg, iter, [], 0⟩] scope pos] [] p2) (tX X.K X.mg (dcR (own.map (·.2)) t mi mk sdsV)) := by
  refine imp_e (pe_callB (call_sortedD c.calm) hg0 hm0 boot_sorted' (pa_cons (dcBlk c hN hi ok hg hk hv hs) pa_nil (by rfl)) (by decide) (by decide) (by rfl) (by rfl)) fun σ H Q q => ?_
  obtain ⟨ρ, σw, h, w, h', rs, rh, e, q⟩ := q
  obtain ⟨S, h1, e1, e⟩ := bind_eq_ok e
  obtain ⟨acc, h2, e2, e⟩ := bind_eq_ok e
  unfold tCB tCons tNil
  refine dc_read hsl rs rh e1 e2 fun ρ2 H2 D f2 rh2 hD => ?_
  unfold sdsV at e
  split at e
  case h_2 => cases e
  rename_i xs hx
  split at e
  case isFalse => cases e
  rename_i h64
  obtain ⟨hz, rfl, rfl⟩ := newL_ok e
  have ek := keyTxs_ok hx
  subst ek
  refine ⟨D, dkE (xs.map Sum.inr), xs, rfl, .inl hD, ?_, h64, fun ys p0 pm so hp0 => ?_⟩
  · unfold dkE
    rw [List.map_map]
    exact List.map_id' _
  · rw [sortS_uniq pm so]
    exact QV.lst (fun ρ3 H3 v3 f3 rh3 rv3 => q ρ3 H3 v3 (f2.trans f3) rh3 rv3) rh2 (strs_rw _) hp0
theorem s_ldi (c : Cal X) (hN : X.N.Nodup) (hg0 : Gl X "len") (hm0 : X.mg "len" = none) (hi : PI X tg iter (tI X.K X.mg mi)) (ok : BlkOk X.N X.env.scope scope own) (hsl : ∀ j ∈ t.slots, j ∈ own.map (·.2))
    (hg : ∀ (s : Shared) (H : Hp) (C : Addr) (cl : List (Str × Addr)) (fp : List Addr), PG (X.blk s H scope (compEnvC scope cl C X.env) fp) tg (tGo X.K X.mg t))
    (hk : ∀ (s : Shared) (H : Hp) (C : Addr) (cl : List (Str × Addr)) (fp : List Addr), PE (X.blk s H scope (compEnvC scope cl C X.env) fp) kx (tX X.K X.mg mk))
    (hv : ∀ (s : Shared) (H : Hp) (C : Addr) (cl : List (Str × Addr)) (fp : List Addr), PE (X.blk s H scope (compEnvC scope cl C X.env) fp) vx (tC (.bl true))) (hs : ∀ x, foldedSetIterable iter X.env x = pure x) :
    PE X (.Call (.Name "len" p) [.DictComp kx vx [⟨tg, iter, [], 0⟩] scope pos] [] p2) (tX X.K X.mg (dcR (own.map (·.2)) t mi mk fun acc h2 => .ok (.int (acc.length : Nat)) h2)) := by
  refine imp_e (pe_callB call_lenD hg0 hm0 PySem.boot_len (pa_cons (dcBlk c hN hi ok hg hk hv hs) pa_nil (by rfl)) (by decide) (by decide) (by rfl) (by rfl)) fun σ H Q q => ?_
  obtain ⟨ρ, σw, h, w, h', rs, rh, e, q⟩ := q
  obtain ⟨S, h1, e1, e⟩ := bind_eq_ok e
  obtain ⟨acc, h2, e2, e⟩ := bind_eq_ok e
  cases e
  unfold tCB tCons tNil
  refine dc_read hsl rs rh e1 e2 fun ρ2 H2 D f2 rh2 hD => ⟨D, dkE acc, rfl, hD, ?_⟩
  have : (dkE acc).length = acc.length := by unfold dkE; rw [List.length_map]
  rw [this]
  exact q ρ2 H2 _ f2 rh2 (.int _)
end
end Vy
set_option maxHeartbeats 2000000
/-! what the checker tells: expressions -/
namespace Vy
open PySem PySem.Spec PyProof.Rows L2
theorem bool1 {X : Cx} {y : Expr} {op : BoolOp} {pos : Pos} {t : TE} (h : PE X y t) : PE X (.BoolOp op [y] pos) t := ⟨fun pins s σ H Q I q => h.run pins s σ H Q I q⟩
section
variable {X : Cx} {a b c : Expr} {ma mb mc : Sg → Hm → Res Va} {pos : Pos}
theorem s_tcmp2 (cl : Cal X) (o p : Cp) {e : Expr} (hm : lastMarks [cpM o, cpM p] [b, e] = false) (ha : PE X a (tX X.K X.mg ma)) (hb : PE X b (tX X.K X.mg mb)) (hc : PE X e (tX X.K X.mg mc)) :
    PT X (.Compare a [cpM o, cpM p] [b, e] pos) (tB' X.K X.mg fun σ h => truR ((ma σ h).bind fun x h1 => (mb σ h1).bind fun y h2 => match cmpP h2 o x y with
      | some true => (mc σ h2).bind fun z h3 => ofB h3 (cmpP h3 p y z)
      | some false => .ok (.bl false) h2
      | none => .bad)) := by
  have hu : X.A.units + 65 < cLine := by have := cl.un; omega
  refine imp_t (pt_chain (op_cmp hu o) (op_cmp hu p) ha hb hc hm) fun σ H Q q => ?_
  obtain ⟨ρ, σw, h, k, h', rs, rh, e, q⟩ := q
  obtain ⟨w, e, ek⟩ := truR_ok e
  obtain ⟨x, h1, e1, e⟩ := bind_eq_ok e
  obtain ⟨y, h2, e2, e⟩ := bind_eq_ok e
  refine ⟨ρ, σw, h, x, h1, rs, rh, e1, fun ρ1 H1 v1 f1 rh1 rv1 => ⟨ρ1, σw, h1, y, h2, rs.fut f1, rh1, e2, fun ρ2 H2 v2 f2 rh2 rv2 => ?_⟩⟩
  split at e
  · rename_i g
    refine ⟨ρ2, h2, x, y, .bl true, h2, rh2, rv1.fut f2, rv2, by show ofB h2 (cmpP h2 o x y) = _; rw [g]; rfl, fun ρ3 H3 v3 f3 rh3 rv3 => ?_⟩
    cases rv3
    refine ⟨true, rfl, ?_⟩
    obtain ⟨z, h3, e3, e⟩ := bind_eq_ok e
    have f03 := f1.trans (f2.trans f3)
    refine ⟨ρ3, σw, h2, z, h3, rs.fut f03, rh3, e3, fun ρ4 H4 v4 f4 rh4 rv4 => ⟨ρ4, h3, y, z, w, h', rh4, rv2.fut (f3.trans f4), rv4, e, fun ρ5 H5 v5 f5 rh5 rv5 => ?_⟩⟩
    have ew : ∃ d, w = .bl d := by
      cases g2 : cmpP h3 p y z with
      | none => rw [g2] at e; cases e
      | some d => rw [g2] at e; cases e; exact ⟨d, rfl⟩
    obtain ⟨d, rfl⟩ := ew
    cases ek
    cases rv5
    exact ⟨k, rfl, q ρ5 H5 (f03.trans (f4.trans f5)) rh5⟩
  · rename_i g
    cases e
    cases ek
    refine ⟨ρ2, h', x, y, .bl false, h', rh2, rv1.fut f2, rv2, by show ofB h' (cmpP h' o x y) = _; rw [g]; rfl, fun ρ3 H3 v3 f3 rh3 rv3 => ?_⟩
    cases rv3
    exact ⟨false, rfl, false, rfl, q ρ3 H3 (f1.trans (f2.trans f3)) rh3⟩
  · cases e
end
theorem kXs_len {Γ : Ev} {c : Ct} : ∀ {es : Xs} {l : List Expr} {σ : Sg} {h h' : Hm} {ws : List Va}, noStar l = true → kXs c es l = true → eXs Γ es σ h = .ok ws h' → ws.length = l.length
  | .nil, l, σ, h, h', ws, hn, hk, e => by
    unfold kXs at hk
    cases l with
    | nil => unfold eXs at e; cases e; rfl
    | cons _ _ => cases hk
  | .cons p r, l, σ, h, h', ws, hn, hk, e => by
    unfold kXs at hk
    cases l with
    | nil => cases hk
    | cons a l =>
      simp only [Bool.and_eq_true] at hk
      unfold eXs at e
      obtain ⟨x, h1, e1, e⟩ := bind_eq_ok e
      obtain ⟨xs, h2, e2, e⟩ := bind_eq_ok e
      cases e
      exact congrArg (· + 1) (kXs_len (noStar_cons hn).2 hk.2 e2)
  | .star p r, l, σ, h, h', ws, hn, hk, e => by
    unfold kXs at hk
    split at hk
    · exact absurd (noStar_cons hn).1 (by simp [isStar])
    · cases hk
structure SX (Γ : Ev) (X : Cx) (t : Bool) (p : Xp) (e : Expr) : Prop where
  val : t = false → PE X e (tX X.K X.mg (eX Γ p))
  tst : t = true → PT X e (tB' X.K X.mg fun σ h => truR (eX Γ p σ h))
  who : t = true → isBoolE e = true → PW X e (tB' X.K X.mg fun σ h => truR (eX Γ p σ h))
theorem SX.of {Γ : Ev} {X : Cx} {t : Bool} {p : Xp} {e : Expr} (hp : plainT e = true) (h : PE X e (tX X.K X.mg (eX Γ p))) : SX Γ X t p e :=
  ⟨fun _ => h, fun _ => s_truth h (plainT_ok hp), fun _ hb => by
    cases e with
    | BoolOp _ _ _ => exact nomatch (show false = true from hp)
    | _ => exact nomatch (show false = true from hb)⟩
theorem SX.pt {Γ : Ev} {X : Cx} {t : Bool} {p : Xp} {e : Expr} (h : PE X e (tX X.K X.mg (eX Γ p))) (h2 : PT X e (tB' X.K X.mg fun σ h => truR (eX Γ p σ h))) (hb : isBoolE e = false) : SX Γ X t p e :=
  ⟨fun _ => h, fun _ => h2, fun _ z => by rw [hb] at z; cases z⟩
theorem SX.pw {Γ : Ev} {X : Cx} {t : Bool} {p : Xp} {e : Expr} (h : t = false → PE X e (tX X.K X.mg (eX Γ p))) (h2 : t = true → PW X e (tB' X.K X.mg fun σ h => truR (eX Γ p σ h))) : SX Γ X t p e :=
  ⟨h, fun z => (h2 z).pt, fun z _ => h2 z⟩
theorem ofB_bl {h h' : Hm} {o : Option Bool} {w : Va} (e : ofB h o = .ok w h') : ∃ k, w = .bl k := by
  cases o with
  | none => cases e
  | some d => cases e; exact ⟨d, rfl⟩
mutual
theorem okX {Γ : Ev} : ∀ (p : Xp) (c : Ct) (t : Bool) (X : Cx) (e : Expr), Stc c Γ X → kX c t p e = true → SX Γ X t p e
  | .var i, c, t, X, e, S, h => by
    unfold kX at h
    split at h
    · rename_i x hv
      obtain ⟨pos, rfl⟩ := vName_ok hv
      simp only [Bool.and_eq_true, decide_eq_true_eq] at h
      obtain ⟨⟨⟨h1, h2⟩, h3⟩, h4⟩ := h
      exact SX.of rfl (s_var (by rw [S.N]; exact h1) (by rw [S.sc]; exact visB_ok h2) (dbgB_ok h3) (by simpa using h4))
    · cases h
  | .cst w, c, t, X, e, S, h => by
    unfold kX at h
    obtain ⟨h1, h2⟩ := cst_ok S h
    exact SX.of h2 h1
  | .glob kk x, c, t, X, e, S, h => by
    unfold kX at h
    split at h
    · rename_i y hv
      obtain ⟨pos, rfl⟩ := vName_ok hv
      simp only [Bool.and_eq_true, decide_eq_true_eq] at h
      obtain ⟨⟨⟨rfl, h2⟩, h3⟩, h4⟩ := h
      refine SX.of rfl ⟨fun pins s σ H Q I q => ?_⟩
      have q0 := q
      obtain ⟨ρ, σw, hh, w, h', rs, rh, e, q⟩ := q
      obtain ⟨e1, e2⟩ := ofO_ok e
      obtain ⟨v, u, g1, g2, g3⟩ := S.gvs y h3 w e1
      exact (s_glob (glbB_ok S h2) g1 g2 g3 (dbgB_ok h4)).run pins s σ H Q I ⟨ρ, σw, hh, w, h', rs, rh, by rw [e2], q⟩
    · cases h
  | .bin o a b, c, t, X, e, S, h => by
    unfold kX at h
    split at h
    · rename_i o' x y hv
      obtain ⟨pos, rfl⟩ := vBin_ok hv
      simp only [Bool.and_eq_true, decide_eq_true_eq] at h
      obtain ⟨⟨rfl, h2⟩, h3⟩ := h
      exact SX.of rfl (s_bin o ((okX a c false X x S h2).val rfl) ((okX b c false X y S h3).val rfl))
    · cases h
  | .neg a, c, t, X, e, S, h => by
    unfold kX at h
    split at h
    · rename_i o' x hv
      obtain ⟨pos, rfl⟩ := vUn_ok hv
      simp only [Bool.and_eq_true, decide_eq_true_eq] at h
      obtain ⟨rfl, h2⟩ := h
      exact SX.of rfl (s_neg ((okX a c false X x S h2).val rfl))
    · cases h
  | .not a, c, t, X, e, S, h => by
    unfold kX at h
    split at h
    · rename_i o' x hv
      obtain ⟨pos, rfl⟩ := vUn_ok hv
      simp only [Bool.and_eq_true, decide_eq_true_eq] at h
      obtain ⟨rfl, h2⟩ := h
      have ih := okX a c t X x S h2
      exact ⟨fun z => s_not (ih.val z), fun z => s_tnot (ih.tst z), fun _ z => nomatch (show false = true from z)⟩
    · cases h
  | .and a b, c, t, X, e, S, h => by
    unfold kX at h
    split at h
    · rename_i o' x y r pos hv
      have ev := vBool_ok hv
      subst ev
      simp only [Bool.and_eq_true, decide_eq_true_eq] at h
      obtain ⟨⟨rfl, h2⟩, h3⟩ := h
      have ia := okX a c t X x S h2
      have ib := okX b c t X _ S h3
      cases r with
      | nil => exact SX.pw (fun z => s_and (ia.val z) (bool1 (ib.val z))) (fun z => s_wand (ia.tst z) (pw_and1 (ib.tst z)))
      | cons z0 r => exact SX.pw (fun z => s_and (ia.val z) (ib.val z)) (fun z => s_wand (ia.tst z) (ib.who z rfl))
    · cases h
  | .or a b, c, t, X, e, S, h => by
    unfold kX at h
    split at h
    · rename_i o' x y r pos hv
      have ev := vBool_ok hv
      subst ev
      simp only [Bool.and_eq_true, decide_eq_true_eq] at h
      obtain ⟨⟨rfl, h2⟩, h3⟩ := h
      have ia := okX a c t X x S h2
      have ib := okX b c t X _ S h3
      cases r with
      | nil => exact SX.pw (fun z => s_or (ia.val z) (bool1 (ib.val z))) (fun z => s_wor (ia.tst z) (pw_or1 (ib.tst z)))
      | cons z0 r => exact SX.pw (fun z => s_or (ia.val z) (ib.val z)) (fun z => s_wor (ia.tst z) (ib.who z rfl))
    · cases h
  | .cmp o a b, c, t, X, e, S, h => by
    unfold kX at h
    split at h
    · rename_i o' x y hv
      obtain ⟨pos, rfl⟩ := vCmp_ok hv
      simp only [Bool.and_eq_true, decide_eq_true_eq, Bool.not_eq_true'] at h
      obtain ⟨⟨⟨rfl, h2⟩, h3⟩, h4⟩ := h
      have ia := (okX a c false X x S h2).val rfl
      have ib := (okX b c false X y S h3).val rfl
      exact SX.pt (s_cmp S.cal o ia ib h4) (s_tcmp (f := fun x y h => ofB h (cmpP h o x y)) (op_cmp (by have := S.cal.un; omega) o) (fun _ _ _ _ _ z => ofB_bl z) ia ib h4) rfl
    · cases h
  | .cmp2 o q a b d, c, t, X, e, S, h => by
    unfold kX at h
    split at h
    · rename_i o' q' x y z hv
      obtain ⟨pos, rfl⟩ := vCmp2_ok hv
      simp only [Bool.and_eq_true, decide_eq_true_eq, Bool.not_eq_true'] at h
      obtain ⟨⟨⟨⟨⟨rfl, rfl⟩, h2⟩, h3⟩, h4⟩, h5⟩ := h
      have ia := (okX a c false X x S h2).val rfl
      have ib := (okX b c false X y S h3).val rfl
      have id := (okX d c false X z S h4).val rfl
      exact SX.pt (s_cmp2 S.cal o q h5 ia ib id) (s_tcmp2 S.cal o q h5 ia ib id) rfl
    · cases h
  | .ife q a b, c, t, X, e, S, h => by
    unfold kX at h
    split at h
    · rename_i x y z hv
      obtain ⟨pos, rfl⟩ := vIf_ok hv
      simp only [Bool.and_eq_true] at h
      obtain ⟨⟨h2, h3⟩, h4⟩ := h
      refine ⟨fun ht => ?_, fun ht => ?_, fun _ z => (nomatch z)⟩
      · subst ht
        exact s_ife ((okX q c true X x S h2).tst rfl) ((okX a c false X y S h3).val rfl) ((okX b c false X z S h4).val rfl)
      · subst ht
        exact s_tife ((okX q c true X x S h2).tst rfl) ((okX a c true X y S h3).tst rfl) ((okX b c true X z S h4).tst rfl)
    · cases h
  | .tup es, c, t, X, e, S, h => by
    unfold kX at h
    split at h
    · rename_i l hv
      obtain ⟨k, pos, rfl⟩ := vTup_ok hv
      exact SX.of rfl (s_tup (okXs es c X l S h))
    · cases h
  | .lst es, c, t, X, e, S, h => by
    unfold kX at h
    split at h
    · rename_i l hv
      obtain ⟨pos, rfl⟩ := vLst_ok hv
      exact SX.of rfl (s_lst (okXs es c X l S h))
    · cases h
  | .idx a b, c, t, X, e, S, h => by
    unfold kX at h
    split at h
    · rename_i x y hv
      obtain ⟨pos, rfl⟩ := vSub_ok hv
      simp only [Bool.and_eq_true] at h
      obtain ⟨⟨h1, h2⟩, h3⟩ := h
      exact SX.of rfl (s_idx ((okX a c false X x S h2).val rfl) ((okX b c false X y S h3).val rfl) (plainIx_of h1))
    · cases h
  | .slc a lo hi, c, t, X, e, S, h => by
    unfold kX at h
    split at h
    · rename_i x l u hv
      obtain ⟨p, pos, rfl⟩ := vSlc_ok hv
      simp only [Bool.and_eq_true] at h
      obtain ⟨⟨h1, h2⟩, h3⟩ := h
      exact SX.of rfl (s_slc ((okX a c false X x S h1).val rfl) (okXo lo c X l S h2) (okXo hi c X u S h3))
    · cases h
  | .slcs a lo hi st, c, t, X, e, S, h => by
    unfold kX at h
    split at h
    · rename_i x l u k hv
      obtain ⟨p, pos, rfl⟩ := vStep_ok hv
      simp only [Bool.and_eq_true] at h
      obtain ⟨⟨⟨h1, h2⟩, h3⟩, h4⟩ := h
      exact SX.of rfl (s_step ((okX a c false X x S h1).val rfl) (okXo lo c X l S h2) (okXo hi c X u S h3) ((okX st c false X k S h4).val rfl))
    · cases h
  | .call kk f es, c, t, X, e, S, h => by
    unfold kX at h
    split at h
    · rename_i x l hv
      obtain ⟨p, pos, rfl⟩ := vCall_ok hv
      simp only [Bool.and_eq_true, decide_eq_true_eq] at h
      obtain ⟨⟨⟨⟨⟨rfl, h2⟩, h3⟩, h4⟩, h5⟩, h6⟩ := h
      have ih := okXs es c X l S h6
      cases l with
      | nil =>
        refine SX.of rfl (imp_e (s_call0 S h2 (glbB_ok S h3) (dbgB_ok h4)) fun σ H Q q => ?_)
        cases es with
        | nil => exact q
        | cons _ _ => unfold kXs at h6; cases h6
        | star _ _ => unfold kXs at h6; cases h6
      | cons b l => exact SX.of rfl (s_call S h2 (glbB_ok S h3) (dbgB_ok h4) h5 ih)
    · cases h
  | .callk kk f ks es fs, c, t, X, e, S, h => by
    unfold kX at h
    split at h
    · rename_i x l kws hv
      obtain ⟨p, pos, rfl⟩ := vCallK_ok hv
      simp only [Bool.and_eq_true, decide_eq_true_eq] at h
      obtain ⟨⟨⟨⟨⟨⟨⟨⟨⟨⟨rfl, h2⟩, h3⟩, h4⟩, h5⟩, h6⟩, h7⟩, h8⟩, h9⟩, h11⟩, h10⟩ := h
      have ih := okXs es c X l S h9
      have ik := okKw fs c X kws S h11 h10
      cases l with
      | nil =>
        refine SX.of rfl (imp_e (s_callk0 S h2 (glbB_ok S h3) (dbgB_ok h4) ik h6 (by rw [h7, h8]; rfl)) fun σ H Q q => ?_)
        cases es with
        | nil => exact q
        | cons _ _ => unfold kXs at h9; cases h9
        | star _ _ => unfold kXs at h9; cases h9
      | cons b l => exact SX.of rfl (s_callk S h2 (glbB_ok S h3) (dbgB_ok h4) h5 ih ik h6 (by rw [h7, h8]) fun σ h ws h' e => kXs_len h5 h9 e)
    · cases h
  | .bi f es, c, t, X, e, S, h => by
    unfold kX at h
    split at h
    · rename_i l hv
      simp only [Bool.and_eq_true] at h
      obtain ⟨h1, h2⟩ := biArgs_ok S hv h.1 (okXs es c X l S h.2)
      exact SX.of h2 h1
    · cases h
  | .me m o es, c, t, X, e, S, h => by
    unfold kX at h
    split at h
    · rename_i x l hv
      obtain ⟨ap, pos, rfl, g1, g2, g3, g4⟩ := vMeth_ok hv
      simp only [Bool.and_eq_true] at h
      have io := (okX o c false X x S h.1).val rfl
      have ih := okXs es c X l S h.2
      refine SX.of rfl ?_
      cases l with
      | nil =>
        refine imp_e (s_me0 m io (baseB_ok g1) g2) fun σ H Q q => ?_
        cases es with
        | nil => exact q
        | cons _ _ => have h2 := h.2; unfold kXs at h2; cases h2
        | star _ _ => have h2 := h.2; unfold kXs at h2; cases h2
      | cons b l =>
        obtain ⟨n1, n2⟩ := noStar_cons g3
        refine s_me m io ih (baseB_ok g1) ?_ g2 (star_one n1) (noStar_any n2)
        rw [noStar_all g3]
        have z : decide ((b :: l).length + ([] : List Keyword).length + (if ([] : List Keyword).isEmpty then 0 else 1) < 30) = true := by
          rw [decide_eq_true_eq]
          simpa using g4
        rw [z]
        rfl
    · cases h
  | .lc own elt t it ifs, c, t0, X, e, S, h => by
    unfold kX at h
    split at h
    · rename_i x tg i fs sc hv
      obtain ⟨pos, rfl⟩ := vComp_ok hv
      simp only [Bool.and_eq_true] at h
      obtain ⟨⟨⟨⟨⟨⟨h1, h2⟩, h3⟩, h4⟩, h5⟩, h6⟩, h7⟩ := h
      have hb : BlkOk X.N X.env.scope sc (ownOf c.N own) := by
        rw [S.N, S.sc]
        exact blkOk_by h1
      have r := s_lc (t := t) (mi := fun σ h => eIt Γ it σ h) (mt := fun σ h => eIf Γ ifs σ h) (me := fun σ h => eX Γ elt σ h) (pos := pos) S.cal.calm S.nd (okIt it c X tg i S h4) hb (fun j hj => by
          rw [ownOf_snd]
          have z := List.all_eq_true.mp h2 j hj
          simpa using z)
        (fun s H C cl fp => tg_ok (S.blk sc s H C cl fp) t tg h5) (fun s H C cl fp => okIf ifs (c.blk sc) _ fs (S.blk sc s H C cl fp) h6) (fun s H C cl fp => (okX elt (c.blk sc) false _ x (S.blk sc s H C cl fp) h7).val rfl) (notSet_ok h3)
      rw [ownOf_snd] at r
      exact SX.of rfl r
    · cases h
  | .lc2 own elt t it vs1 t1 it1, c, t0, X, e, S, h => by
    unfold kX at h
    split at h
    · rename_i x tg i tg1 i1 sc hv
      obtain ⟨pos, rfl⟩ := vComp2_ok hv
      simp only [Bool.and_eq_true] at h
      obtain ⟨⟨⟨⟨⟨⟨⟨⟨⟨⟨h1, h2⟩, h2b⟩, h2c⟩, h3⟩, h3b⟩, h4⟩, h5⟩, h6⟩, h6b⟩, h7⟩ := h
      have hb : BlkOk X.N X.env.scope sc (ownOf c.N own) := by
        rw [S.N, S.sc]
        exact blkOk_by h1
      have r := s_lc2 (t := t) (t1 := t1) (vs1 := vs1) (mi := fun σ h => eIt Γ it σ h) (mi1 := fun σ h => eIt Γ it1 σ h) (me := fun σ h => eX Γ elt σ h) (pos := pos) S.cal.calm S.nd (okIt it c X tg i S h4) hb (fun j hj => by
          rw [ownOf_snd]
          have z := List.all_eq_true.mp h2 j hj
          simpa using z) (fun j hj => by
          have z := List.all_eq_true.mp h2b j hj
          simpa using z) (fun j hj => by
          rw [ownOf_snd]
          have z := List.all_eq_true.mp h2c j hj
          simpa using z)
        (fun s H C cl fp => tg_ok (S.blk sc s H C cl fp) t tg h5) (fun s H C cl fp => okIt it1 (c.blk sc) _ tg1 i1 (S.blk sc s H C cl fp) h6) (fun s H C cl fp => tg_ok (S.blk sc s H C cl fp) t1 tg1 h6b) (fun s H C cl fp => (okX elt (c.blk sc) false _ x (S.blk sc s H C cl fp) h7).val rfl) (notSet_ok h3) (fun env => notSet_ok h3b)
      rw [ownOf_snd] at r
      exact SX.of rfl r
    · cases h
  | .sdp own key t it, c, t0, X, e, S, h => by
    unfold kX at h
    split at h
    · rename_i k v tg i sc hv
      obtain ⟨p1, p2, p3, rfl⟩ := vSdp_ok hv
      simp only [Bool.and_eq_true] at h
      obtain ⟨⟨⟨⟨⟨⟨⟨h0, h00⟩, h1⟩, h2⟩, h3⟩, h4⟩, h5⟩, h7⟩ := h
      obtain ⟨g1, g2, _, _⟩ := bltB_ok S h0
      have hb : BlkOk X.N X.env.scope sc (ownOf c.N own) := by
        rw [S.N, S.sc]
        exact blkOk_by h1
      have r := s_sdp (t := t) (mi := fun σ h => eIt Γ it σ h) (mk := fun σ h => eX Γ key σ h) (pos := p2) (p := p1) (p2 := p3) S.cal S.nd g1 g2 (okIt it c X tg i S h4) hb (fun j hj => by
          rw [ownOf_snd]
          have z := List.all_eq_true.mp h2 j hj
          simpa using z)
        (fun s H C cl fp => tg_ok (S.blk sc s H C cl fp) t tg h5) (fun s H C cl fp => (okX key (c.blk sc) false _ k (S.blk sc s H C cl fp) h7).val rfl) (fun s H C cl fp => isTrueC_ok h00) (notSet_ok h3)
      rw [ownOf_snd] at r
      exact SX.of rfl r
    · cases h
  | .sds own key t it, c, t0, X, e, S, h => by
    unfold kX at h
    split at h
    · rename_i k v tg i sc hv
      obtain ⟨p1, p2, p3, rfl⟩ := vSdp_ok hv
      simp only [Bool.and_eq_true] at h
      obtain ⟨⟨⟨⟨⟨⟨⟨h0, h00⟩, h1⟩, h2⟩, h3⟩, h4⟩, h5⟩, h7⟩ := h
      obtain ⟨g1, g2, _, _⟩ := bltB_ok S h0
      have hb : BlkOk X.N X.env.scope sc (ownOf c.N own) := by
        rw [S.N, S.sc]
        exact blkOk_by h1
      have r := s_sds (t := t) (mi := fun σ h => eIt Γ it σ h) (mk := fun σ h => eX Γ key σ h) (pos := p2) (p := p1) (p2 := p3) S.cal S.nd g1 g2 (okIt it c X tg i S h4) hb (fun j hj => by
          rw [ownOf_snd]
          have z := List.all_eq_true.mp h2 j hj
          simpa using z)
        (fun s H C cl fp => tg_ok (S.blk sc s H C cl fp) t tg h5) (fun s H C cl fp => (okX key (c.blk sc) false _ k (S.blk sc s H C cl fp) h7).val rfl) (fun s H C cl fp => isTrueC_ok h00) (notSet_ok h3)
      rw [ownOf_snd] at r
      exact SX.of rfl r
    · cases h
  | .ldi own key t it, c, t0, X, e, S, h => by
    unfold kX at h
    split at h
    · rename_i k v tg i sc hv
      obtain ⟨p1, p2, p3, rfl⟩ := vLdc_ok hv
      simp only [Bool.and_eq_true] at h
      obtain ⟨⟨⟨⟨⟨⟨⟨h0, h00⟩, h1⟩, h2⟩, h3⟩, h4⟩, h5⟩, h7⟩ := h
      obtain ⟨g1, g2, _, _⟩ := bltB_ok S h0
      have hb : BlkOk X.N X.env.scope sc (ownOf c.N own) := by
        rw [S.N, S.sc]
        exact blkOk_by h1
      have r := s_ldi (t := t) (mi := fun σ h => eIt Γ it σ h) (mk := fun σ h => eX Γ key σ h) (pos := p2) (p := p1) (p2 := p3) S.cal S.nd g1 g2 (okIt it c X tg i S h4) hb (fun j hj => by
          rw [ownOf_snd]
          have z := List.all_eq_true.mp h2 j hj
          simpa using z)
        (fun s H C cl fp => tg_ok (S.blk sc s H C cl fp) t tg h5) (fun s H C cl fp => (okX key (c.blk sc) false _ k (S.blk sc s H C cl fp) h7).val rfl) (fun s H C cl fp => isTrueC_ok h00) (notSet_ok h3)
      rw [ownOf_snd] at r
      exact SX.of rfl r
    · cases h
  | .sss p, c, t0, X, e, S, h => by
    unfold kX at h
    split at h
    · rename_i a hv
      obtain ⟨p1, p2, p3, p4, rfl⟩ := vSss_ok hv
      simp only [Bool.and_eq_true, Bool.not_eq_true'] at h
      obtain ⟨⟨⟨h0, h1⟩, h2⟩, h3⟩ := h
      obtain ⟨g1, g2, _, _⟩ := bltB_ok S h0
      obtain ⟨k1, k2, _, _⟩ := bltB_ok S h1
      exact SX.of rfl (s_sss S.cal.calm g1 g2 k1 k2 ((okX p c false X a S h3).val rfl) (star_one h2))
    · cases h
  | .gc p, c, t, X, e, S, h => by
    unfold kX at h
    simp only [Bool.and_eq_true] at h
    exact SX.of h.1 (s_gc ((okX p c false X e S h.2).val rfl))
  | .dnew, c, t, X, e, S, h => by
    unfold kX at h
    obtain ⟨p, rfl⟩ := isD0_ok h
    exact SX.of rfl s_dnew
theorem okXs {Γ : Ev} : ∀ (p : Xs) (c : Ct) (X : Cx) (l : List Expr), Stc c Γ X → kXs c p l = true → PA X l (tXs X.K X.mg (eXs Γ p))
  | .nil, c, X, l, S, h => by
    unfold kXs at h
    cases l with
    | nil => exact s_nil
    | cons _ _ => cases h
  | .cons p r, c, X, l, S, h => by
    unfold kXs at h
    cases l with
    | nil => cases h
    | cons a l =>
      simp only [Bool.and_eq_true, Bool.not_eq_true'] at h
      exact s_cons ((okX p c false X a S h.1.2).val rfl) (okXs r c X l S h.2) (star_one h.1.1)
  | .star p r, c, X, l, S, h => by
    unfold kXs at h
    split at h
    · simp only [Bool.and_eq_true] at h
      exact s_star ((okX p c false X _ S h.1).val rfl) (okXs r c X _ S h.2)
    · cases h
theorem okKw {Γ : Ev} : ∀ (p : Xs) (c : Ct) (X : Cx) (l : List Keyword), Stc c Γ X → noSt p = true → kXs c p (kwVals l) = true → PK X l (tXs X.K X.mg (eXs Γ p))
  | .nil, c, X, l, S, n, h => by
    unfold kXs at h
    cases l with
    | nil => exact s_knil
    | cons _ _ => cases h
  | .cons p r, c, X, l, S, n, h => by
    unfold kXs at h
    cases l with
    | nil => cases h
    | cons a l =>
      have h' : (!isStar a.value && kX c false p a.value && kXs c r (kwVals l)) = true := h
      simp only [Bool.and_eq_true, Bool.not_eq_true'] at h'
      obtain ⟨nm, v, kp⟩ := a
      exact s_kcons ((okX p c false X v S h'.1.2).val rfl) (okKw r c X l S n h'.2)
  | .star p r, c, X, l, S, n, h => nomatch (show false = true from n)
theorem okXo {Γ : Ev} : ∀ (p : Xo) (c : Ct) (X : Cx) (o : Option Expr), Stc c Γ X → kXo c p o = true → PO X o (tOo X.K X.mg (eXo Γ p))
  | .none, c, X, o, S, h => by
    unfold kXo at h
    cases o with
    | none => exact s_oNone
    | some _ => cases h
  | .some p, c, X, o, S, h => by
    unfold kXo at h
    cases o with
    | none => cases h
    | some e => exact s_oSome ((okX p c false X e S h).val rfl)
theorem okIf {Γ : Ev} : ∀ (p : Xo) (c : Ct) (X : Cx) (l : List Expr), Stc c Γ X → kIf c p l = true → PTs X l (tB' X.K X.mg (eIf Γ p))
  | .none, c, X, l, S, h => by
    unfold kIf at h
    cases l with
    | nil => exact s_pnil
    | cons _ _ => cases h
  | .some p, c, X, l, S, h => by
    unfold kIf at h
    split at h
    · exact pts_one ((okX p c true X _ S h).tst rfl)
    · cases h
theorem okIt {Γ : Ev} : ∀ (p : It') (c : Ct) (X : Cx) (tg e : Expr), Stc c Γ X → kIt c tg p e = true → PI X tg e (tI X.K X.mg (eIt Γ p))
  | .seq p, c, X, tg, e, S, h => by
    unfold kIt at h
    exact s_seq ((okX p c false X e S h).val rfl)
  | .of f es, c, X, tg, e, S, h => by
    unfold kIt at h
    split at h
    · rename_i l hv
      simp only [Bool.and_eq_true] at h
      exact itArgs_ok S hv h.1 (okXs es c X l S h.2)
    · cases h
end
end Vy
set_option maxHeartbeats 2000000
/-! the checker of statements and what it tells -/
namespace Vy
open PySem PySem.Spec PyProof.Rows L2
/-- the compiler swaps the store of a comprehension at once -/
def swB (sc : Scope) (v tg : Expr) : Bool := match v, tg with
  | .ListComp _ _ s p, .Name t q => decide (sc.names.lookup t = some .local) && q.line == p.line && !(s.names.any fun (n, k) => n == t && (k == .local || k == .cell))
  | _, _ => false
def noComp2 : Expr → Bool
  | .SetComp _ _ _ _ => false
  | .DictComp _ _ _ _ _ => false
  | _ => true
theorem sw_ok {v tg : Expr} {line : Nat} {env : Env} (hk : env.scope.kind = .function) (hn : noComp2 v = true) : swapsWith v (some tg) line env = pure (swB env.scope v tg) := by
  have hb : env.blockKind = .function := by unfold Env.blockKind; rw [hk]; rfl
  cases v with
  | ListComp e g s p =>
    cases tg with
    | Name t q =>
      unfold swapsWith swB
      simp only [hb]
      have e1 : (env.kindOf t == some NameKind.local) = decide (env.scope.names.lookup t = some NameKind.local) := by
        show (env.scope.names.lookup t == some NameKind.local) = _
        rw [Bool.eq_iff_iff]
        simp
      rw [e1]
      rfl
    | _ => rfl
  | SetComp _ _ _ _ => cases hn
  | DictComp _ _ _ _ _ => cases hn
  | _ => rfl
/-- stores that the compiler swaps: none: not told -/
def stN (sc : Scope) (tg v : Expr) : Option (Option (List Str)) := match tg, v with
  | .Tuple ts _ _, .Tuple vs _ _ =>
    if (!(ts.length == 2 || ts.length == 3) || vs.length != ts.length) = true then some none
    else if (vs.any fun | .Starred .. => true | _ => false) = true then some none
    else
      let names := ts.filterMap fun
        | .Name id pos => if (sc.names.lookup id == some .local && pos.line == (ts.head?.map (·.pos.line)).getD 0) = true then some id else none
        | _ => none
      if (names.length != ts.length || names.eraseDups.length != names.length) = true then some none
      else if (vs.all (foldedForSure 8)) = true then some none
      else if (vs.all (constantsAlone 8)) = true then none
      else some (some names)
  | .List _ _, _ => none
  | _, _ => some none
theorem stN_ok {tg v : Expr} {env : Env} {o : Option (List Str)} (hk : env.scope.kind = .function) (h : stN env.scope tg v = some o) : swappedStores [tg] v env = pure o := by
  have hb : env.blockKind = .function := by unfold Env.blockKind; rw [hk]; rfl
  unfold stN at h
  unfold swappedStores
  split at h
  · rename_i ts k p vs k2 p2
    dsimp only
    simp only [hb]
    split at h
    · rename_i g
      cases h
      rw [if_pos (by simpa using g)]
    · rename_i g
      rw [if_neg (by simpa using g)]
      split at h
      · rename_i g2
        cases h
        exact if_pos g2
      · rename_i g2
        refine (if_neg g2).trans ?_
        dsimp only at h
        split at h
        · rename_i g3
          cases h
          exact if_pos g3
        · rename_i g3
          refine (if_neg g3).trans ?_
          split at h
          · rename_i g4
            cases h
            exact if_pos g4
          · rename_i g4
            refine (if_neg g4).trans ?_
            split at h
            · cases h
            · rename_i g5
              cases h
              exact if_neg g5
  · cases h
  · rename_i h1 h2
    cases h
    cases tg with
    | Tuple ts k p =>
      cases v with
      | Tuple vs k2 p2 =>
        exfalso
        simp_all
        exact h2 _ _ _ _ _ _ rfl rfl rfl rfl rfl rfl
      | _ => rfl
    | List ts p => exfalso; simp_all
    | _ => cases v <;> rfl
/-! ### views of statements -/
def vAsg : Stmt → Option (Expr × Expr × Pos)
  | .Assign [tg] v p => some (tg, v, p)
  | _ => none
theorem vAsg_ok {s : Stmt} {tg v : Expr} {p : Pos} (h : vAsg s = some (tg, v, p)) : s = .Assign [tg] v p := by
  unfold vAsg at h
  split at h
  · cases h; rfl
  · cases h
def vRet : Stmt → Option (Option Expr)
  | .Return o _ => some o
  | _ => none
theorem vRet_ok {s : Stmt} {o : Option Expr} (h : vRet s = some o) : ∃ p, s = .Return o p := by
  unfold vRet at h
  split at h
  · cases h; exact ⟨_, rfl⟩
  · cases h
def vExp : Stmt → Option (Expr × Pos)
  | .Expr e p => some (e, p)
  | _ => none
theorem vExp_ok {s : Stmt} {e : Expr} {p : Pos} (h : vExp s = some (e, p)) : s = .Expr e p := by
  unfold vExp at h
  split at h
  · cases h; rfl
  · cases h
def vIfS : Stmt → Option (Expr × List Stmt × List Stmt)
  | .If c a b _ => some (c, a, b)
  | _ => none
theorem vIfS_ok {s : Stmt} {c : Expr} {a b : List Stmt} (h : vIfS s = some (c, a, b)) : ∃ p, s = .If c a b p := by
  unfold vIfS at h
  split at h
  · cases h; exact ⟨_, rfl⟩
  · cases h
def vWhl : Stmt → Option (Expr × List Stmt)
  | .While c a [] _ => some (c, a)
  | _ => none
theorem vWhl_ok {s : Stmt} {c : Expr} {a : List Stmt} (h : vWhl s = some (c, a)) : ∃ p, s = .While c a [] p := by
  unfold vWhl at h
  split at h
  · cases h; exact ⟨_, rfl⟩
  · cases h
def vFor : Stmt → Option (Expr × Expr × List Stmt)
  | .For t i a [] _ => some (t, i, a)
  | _ => none
theorem vFor_ok {s : Stmt} {t i : Expr} {a : List Stmt} (h : vFor s = some (t, i, a)) : ∃ p, s = .For t i a [] p := by
  unfold vFor at h
  split at h
  · cases h; exact ⟨_, rfl⟩
  · cases h
def isPass : Stmt → Bool
  | .Pass _ => true
  | _ => false
def isCont : Stmt → Bool
  | .Continue _ => true
  | _ => false
def isBrk : Stmt → Bool
  | .Break _ => true
  | _ => false
/-- names that are stored at once -/
def vT2 : Tg → Option (Nat × Nat)
  | .tup [.nm i, .nm j] => some (i, j)
  | _ => none
def vT3 : Tg → Option (Nat × Nat × Nat)
  | .tup [.nm i, .nm j, .nm k] => some (i, j, k)
  | _ => none
def vN2 : Expr → Option (Str × Str)
  | .Tuple [.Name x _, .Name y _] _ _ => some (x, y)
  | _ => none
def vN3 : Expr → Option (Str × Str × Str)
  | .Tuple [.Name x _, .Name y _, .Name z _] _ _ => some (x, y, z)
  | _ => none
def vE2 : Expr → Option (Expr × Expr)
  | .Tuple [a, b] _ _ => some (a, b)
  | _ => none
def vE3 : Expr → Option (Expr × Expr × Expr)
  | .Tuple [a, b, d] _ _ => some (a, b, d)
  | _ => none
theorem vT2_ok {t : Tg} {i j : Nat} (h : vT2 t = some (i, j)) : t = .tup [.nm i, .nm j] := by
  unfold vT2 at h
  split at h
  · cases h; rfl
  · cases h
theorem vT3_ok {t : Tg} {i j k : Nat} (h : vT3 t = some (i, j, k)) : t = .tup [.nm i, .nm j, .nm k] := by
  unfold vT3 at h
  split at h
  · cases h; rfl
  · cases h
theorem vN2_ok {e : Expr} {x y : Str} (h : vN2 e = some (x, y)) : ∃ p q k r, e = .Tuple [.Name x p, .Name y q] k r := by
  unfold vN2 at h
  split at h
  · cases h; exact ⟨_, _, _, _, rfl⟩
  · cases h
theorem vN3_ok {e : Expr} {x y z : Str} (h : vN3 e = some (x, y, z)) : ∃ p q s k r, e = .Tuple [.Name x p, .Name y q, .Name z s] k r := by
  unfold vN3 at h
  split at h
  · cases h; exact ⟨_, _, _, _, _, rfl⟩
  · cases h
theorem vE2_ok {e a b : Expr} (h : vE2 e = some (a, b)) : ∃ k r, e = .Tuple [a, b] k r := by
  unfold vE2 at h
  split at h
  · cases h; exact ⟨_, _, rfl⟩
  · cases h
theorem vE3_ok {e a b d : Expr} (h : vE3 e = some (a, b, d)) : ∃ k r, e = .Tuple [a, b, d] k r := by
  unfold vE3 at h
  split at h
  · cases h; exact ⟨_, _, rfl⟩
  · cases h
def lc1 (c : Ct) (i : Nat) (x : Str) : Bool := decide (c.N[i]? = some x) && decide (c.sc.names.lookup x = some .local)
theorem lc1_ok {c : Ct} {i : Nat} {x : Str} (h : lc1 c i x = true) : c.N[i]? = some x ∧ c.sc.names.lookup x = some .local := by
  unfold lc1 at h
  simpa using h
def kPar (c : Ct) (t : Tg) (p : Xp) (tg v : Expr) (ns : List Str) : Bool := match p with
  | .tup es => (match vT2 t, vN2 tg, vE2 v, ns with
    | some (i, j), some (x, y), some (a, b), [x', y'] => decide (x = x') && decide (y = y') && lc1 c i x && lc1 c j y && decide (i ≠ j) && kXs c es [a, b]
    | _, _, _, _ => false) || (match vT3 t, vN3 tg, vE3 v, ns with
    | some (i, j, k), some (x, y, z), some (a, b, d), [x', y', z'] => decide (x = x') && decide (y = y') && decide (z = z') && lc1 c i x && lc1 c j y && lc1 c k z && decide (i ≠ j) && decide (i ≠ k) && decide (j ≠ k) && kXs c es [a, b, d]
    | _, _, _, _ => false)
  | _ => false
def kLcs (c : Ct) (t : Tg) (p : Xp) (tg v : Expr) : Bool := match t, p, tg with
  | .nm i, .lc _ _ _ _ _, .Name x _ => lc1 c i x && kX c false p v
  | _, _, _ => false
def kSet (c : Ct) (t : Tg) (p : Xp) (tg v : Expr) : Bool :=
  noComp2 v && if swB c.sc v tg = true then kLcs c t p tg v else match stN c.sc tg v with
    | some none => tgB c t tg && kX c false p v
    | some (some ns) => kPar c t p tg v ns
    | none => false
mutual
def kS (c : Ct) : Sm → Stmt → Bool
  | .ret p, s => match vRet s with
    | some (some e) => kX c false p e
    | _ => false
  | .retN, s => match vRet s with
    | some none => true
    | _ => false
  | .set t p, s => match vAsg s with
    | some (tg, v, _) => kSet c t p tg v
    | none => false
  | .setIx o i p, s => match vAsg s with
    | some (tg, v, _) => (match vSub tg with
      | some (x, y) => notSlice y && noComp2 v && kX c false p v && kX c false o x && kX c false i y
      | none => false)
    | none => false
  | .dput o es, s => match vAsg s with
    | some (tg, v, _) => (match vSub tg with
      | some (x, y) => (match vTup y with
        | some l => isTrueC v && kX c false o x && kXs c es l
        | none => false)
      | none => false)
    | none => false
  | .expr p, s => match vExp s with
    | some (e, _) => notComp e && kX c false p e
    | none => false
  | .ife q a b, s => match vIfS s with
    | some (x, l, m) => kX c true q x && kSs c a l && kSs c b m
    | none => false
  | .whl q a, s => match vWhl s with
    | some (x, l) => kX c true q x && kSs c a l
    | none => false
  | .for t it a, s => match vFor s with
    | some (tg, x, l) => notSet x && kIt c tg it x && tgB c t tg && kSs c a l
    | none => false
  | .pass, s => isPass s
  | .cont, s => isCont s
  | .brk, s => isBrk s
  | .never, _ => true
def kSs (c : Ct) : Ss → List Stmt → Bool
  | .nil, l => l.isEmpty
  | .cons a r, l => match l with
    | s :: l => kS c a s && kSs c r l
    | [] => false
end
theorem tg_star {c : Ct} {t : Tg} {e : Expr} (h : tgB c t e = true) : isStar e = false := by
  cases e with
  | Starred _ _ =>
    cases t with
    | nm _ => exact nomatch (show false = true from h)
    | tup _ => exact nomatch (show false = true from h)
  | _ => rfl
theorem notComp_sw {e : Expr} {line : Nat} {env : Env} (h : notComp e = true) : swapsWith e none line env = pure false := by
  cases e <;> first | rfl | cases h
theorem subAssign {o i : Expr} {p : Pos} {env : Env} (h : notSlice i = true) : ∀ v, assign (.Subscript o i p) env v = (do
      let ov ← holding [v] (eval o env)
      let iv ← holding [v, ov] (eval i env)
      standAt p
      holding [v, ov, iv] (setItem ov iv v)
      release [v, ov, iv] []) := by
  intro v
  cases i <;> first | rfl | cases h
theorem okSet {Γ : Ev} {c : Ct} {X : Cx} (S : Stc c Γ X) (hk : X.env.scope.kind = .function) {t : Tg} {p : Xp} {tg v : Expr} {pos : Pos} (h : kSet c t p tg v = true) :
    PS X (.Assign [tg] v pos) (tSt X.K X.mg (setR t (fun σ h => eX Γ p σ h))) := by
  unfold kSet at h
  rw [Bool.and_eq_true] at h
  obtain ⟨hn, h⟩ := h
  have hs : swapsWithSole [tg] v pos.line X.env = pure (swB c.sc v tg) := by
    rw [← S.sc]
    exact sw_ok hk hn
  have hs1 : swapsWith v (some tg) pos.line X.env = pure (swB c.sc v tg) := hs
  split at h
  · rename_i g
    rw [g] at hs1
    unfold kLcs at h
    split at h
    · rename_i i own elt t' it ifs x py
      rw [Bool.and_eq_true] at h
      obtain ⟨h0, h⟩ := h
      obtain ⟨n1, n2⟩ := lc1_ok h0
      unfold kX at h
      split at h
      · rename_i x1 tg1 i1 fs sc hv
        obtain ⟨pos1, rfl⟩ := vComp_ok hv
        simp only [Bool.and_eq_true] at h
        obtain ⟨⟨⟨⟨⟨⟨h1, h2⟩, h3⟩, h4⟩, h5⟩, h6⟩, h7⟩ := h
        have hb : BlkOk X.N X.env.scope sc (ownOf c.N own) := by
          rw [S.N, S.sc]
          exact blkOk_by h1
        have r := ss_setLc (t := t') (mi := fun σ h => eIt Γ it σ h) (mt := fun σ h => eIf Γ ifs σ h) (me := fun σ h => eX Γ elt σ h) (i := i) (y := x) (py := py) S.cal.calm S.nd (by rw [S.N]; exact n1) (by rw [S.sc]; exact n2) hs1 (okIt it c X tg1 i1 S h4) hb (fun j hj => by
            rw [ownOf_snd]
            have z := List.all_eq_true.mp h2 j hj
            simpa using z)
          (fun s H C cl fp => tg_ok (S.blk sc s H C cl fp) t' tg1 h5) (fun s H C cl fp => okIf ifs (c.blk sc) _ fs (S.blk sc s H C cl fp) h6) (fun s H C cl fp => (okX elt (c.blk sc) false _ x1 (S.blk sc s H C cl fp) h7).val rfl) (notSet_ok h3)
        rw [ownOf_snd] at r
        exact r
      · cases h
    · cases h
  · rename_i g
    have hs2 : swapsWithSole [tg] v pos.line X.env = pure false := by
      rw [hs]
      congr 1
      simpa using g
    split at h
    · rename_i gs
      rw [← S.sc] at gs
      rw [Bool.and_eq_true] at h
      exact ss_set ((okX p c false X v S h.2).val rfl) (tg_ok S t tg h.1) hs2 (stN_ok hk gs) (by rw [assign_one (tg_star h.1)]; rfl)
    · rename_i ns gs
      rw [← S.sc] at gs
      have hw := stN_ok hk gs
      unfold kPar at h
      split at h
      · rename_i es
        rw [Bool.or_eq_true] at h
        rcases h with h | h
        · split at h
          · rename_i i j x y a b x' y' g1 g2 g3
            have e1 := vT2_ok g1
            obtain ⟨_, _, _, _, e2⟩ := vN2_ok g2
            obtain ⟨_, _, e3⟩ := vE2_ok g3
            subst e1 e2 e3
            simp only [Bool.and_eq_true, decide_eq_true_eq] at h
            obtain ⟨⟨⟨⟨⟨rfl, rfl⟩, h3⟩, h4⟩, h5⟩, h6⟩ := h
            obtain ⟨k1, k2⟩ := lc1_ok h3
            obtain ⟨j1, j2⟩ := lc1_ok h4
            exact ss_par2 S.cal.calm S.nd (by rw [S.N]; exact k1) (by rw [S.N]; exact j1) h5 (by rw [S.sc]; exact k2) (by rw [S.sc]; exact j2) (okXs es c X [a, b] S h6) hw hs2
          · cases h
        · split at h
          · rename_i i j k x y z a b d x' y' z' g1 g2 g3
            have e1 := vT3_ok g1
            obtain ⟨_, _, _, _, _, e2⟩ := vN3_ok g2
            obtain ⟨_, _, e3⟩ := vE3_ok g3
            subst e1 e2 e3
            simp only [Bool.and_eq_true, decide_eq_true_eq] at h
            obtain ⟨⟨⟨⟨⟨⟨⟨⟨⟨rfl, rfl⟩, rfl⟩, h3⟩, h4⟩, h5⟩, n1⟩, n2⟩, n3⟩, h6⟩ := h
            obtain ⟨k1, k2⟩ := lc1_ok h3
            obtain ⟨j1, j2⟩ := lc1_ok h4
            obtain ⟨l1, l2⟩ := lc1_ok h5
            exact ss_par3 S.cal.calm S.nd (by rw [S.N]; exact k1) (by rw [S.N]; exact j1) (by rw [S.N]; exact l1) n1 n2 n3 (by rw [S.sc]; exact k2) (by rw [S.sc]; exact j2) (by rw [S.sc]; exact l2) (okXs es c X [a, b, d] S h6) hw hs2
          · cases h
      · cases h
    · cases h
mutual
theorem okS {Γ : Ev} : ∀ (p : Sm) (c : Ct) (X : Cx) (s : Stmt), Stc c Γ X → X.env.scope.kind = .function → kS c p s = true → PS X s (tSt X.K X.mg (eS Γ p))
  | .ret p, c, X, s, S, hk, h => by
    unfold kS at h
    split at h
    · rename_i e hv
      obtain ⟨pos, rfl⟩ := vRet_ok hv
      exact ss_ret ((okX p c false X e S h).val rfl)
    · cases h
  | .retN, c, X, s, S, hk, h => by
    unfold kS at h
    split at h
    · rename_i hv
      obtain ⟨pos, rfl⟩ := vRet_ok hv
      exact ss_retN
    · cases h
  | .set t p, c, X, s, S, hk, h => by
    unfold kS at h
    split at h
    · rename_i tg v pos hv
      have e := vAsg_ok hv
      subst e
      exact okSet S hk h
    · cases h
  | .setIx o i p, c, X, s, S, hk, h => by
    unfold kS at h
    split at h
    · rename_i tg v pos hv
      have e := vAsg_ok hv
      subst e
      split at h
      · rename_i x y hv2
        obtain ⟨q, rfl⟩ := vSub_ok hv2
        simp only [Bool.and_eq_true] at h
        obtain ⟨⟨⟨⟨h1, h2⟩, h3⟩, h4⟩, h5⟩ := h
        refine ss_setIx ((okX p c false X v S h3).val rfl) ((okX o c false X x S h4).val rfl) ((okX i c false X y S h5).val rfl) ?_ ?_ rfl (subAssign h1)
        · refine (sw_ok (v := v) (tg := .Subscript x y q) (line := pos.line) hk h2).trans ?_
          cases v <;> rfl
        · cases v <;> rfl
      · cases h
    · cases h
  | .dput o es, c, X, s, S, hk, h => by
    unfold kS at h
    split at h
    · rename_i tg v pos hv
      have e := vAsg_ok hv
      subst e
      split at h
      · rename_i x y hv2
        obtain ⟨q, rfl⟩ := vSub_ok hv2
        split at h
        · rename_i l hv3
          obtain ⟨k, p1, rfl⟩ := vTup_ok hv3
          simp only [Bool.and_eq_true] at h
          obtain ⟨⟨h1, h2⟩, h3⟩ := h
          refine ss_dput S.cal ((okX o c false X x S h2).val rfl) (okXs es c X l S h3) (isTrueC_ok h1) ?_
          unfold isTrueC at h1
          split at h1
          · rfl
          · cases h1
        · cases h
      · cases h
    · cases h
  | .expr p, c, X, s, S, hk, h => by
    unfold kS at h
    split at h
    · rename_i e pos hv
      have ev := vExp_ok hv
      subst ev
      rw [Bool.and_eq_true] at h
      exact ss_expr ((okX p c false X e S h.2).val rfl) (notComp_sw h.1)
    · cases h
  | .ife q a b, c, X, s, S, hk, h => by
    unfold kS at h
    split at h
    · rename_i x l m hv
      obtain ⟨pos, rfl⟩ := vIfS_ok hv
      simp only [Bool.and_eq_true] at h
      obtain ⟨⟨h1, h2⟩, h3⟩ := h
      exact ss_if ((okX q c true X x S h1).tst rfl) (okSs a c X l S hk h2) (okSs b c X m S hk h3)
    · cases h
  | .whl q a, c, X, s, S, hk, h => by
    unfold kS at h
    split at h
    · rename_i x l hv
      obtain ⟨pos, rfl⟩ := vWhl_ok hv
      simp only [Bool.and_eq_true] at h
      exact ss_while S.own ((okX q c true X x S h.1).tst rfl) (okSs a c X l S hk h.2)
    · cases h
  | .for t it a, c, X, s, S, hk, h => by
    unfold kS at h
    split at h
    · rename_i tg x l hv
      obtain ⟨pos, rfl⟩ := vFor_ok hv
      simp only [Bool.and_eq_true] at h
      obtain ⟨⟨⟨h1, h2⟩, h3⟩, h4⟩ := h
      exact ss_for S.own S.cal.calm (okIt it c X tg x S h2) (tg_ok S t tg h3) (okSs a c X l S hk h4) (notSet_ok h1)
    · cases h
  | .pass, c, X, s, S, hk, h => by
    unfold kS at h
    cases s with
    | Pass pos => exact ss_pass
    | _ => exact nomatch (show false = true from h)
  | .cont, c, X, s, S, hk, h => by
    unfold kS at h
    cases s with
    | Continue pos => exact ss_cont
    | _ => exact nomatch (show false = true from h)
  | .brk, c, X, s, S, hk, h => by
    unfold kS at h
    cases s with
    | Break pos => exact ss_brk
    | _ => exact nomatch (show false = true from h)
  | .never, c, X, s, S, hk, h => ss_never
theorem okSs {Γ : Ev} : ∀ (p : Ss) (c : Ct) (X : Cx) (l : List Stmt), Stc c Γ X → X.env.scope.kind = .function → kSs c p l = true → PSs X l (tSt X.K X.mg (eSs Γ p))
  | .nil, c, X, l, S, hk, h => by
    unfold kSs at h
    cases l with
    | nil => exact ss_nil
    | cons _ _ => cases h
  | .cons a r, c, X, l, S, hk, h => by
    unfold kSs at h
    cases l with
    | nil => cases h
    | cons s l =>
      rw [Bool.and_eq_true] at h
      exact ss_cons (okS a c X s S hk h.1) (okSs r c X l S hk h.2)
end
end Vy
set_option maxHeartbeats 2000000
/-! a def keeps what the evaluator says; all defs of a table, by levels -/
namespace Vy
open PySem PySem.Spec PyProof.Rows L2
/-- the context of a def's body; nothing is let out -/
def cxG (P : Program) (w : World) (K : PySem.W.Frag) (mg : Str → Option Value) (base : Heap) (N : List Str) (qual : Str) (scope : Scope) (f : Addr) (cd : Value) (A : Around) (outer : List Env) (s : Shared) (H : Hp) : Cx :=
  { cxOf CX0 P w K mg base N qual scope f cd A outer s H E0 with xe := fun _ _ => False }
theorem inv_xe {X : Cx} {xe : Value → Shared → Prop} {pins : List (Addr × Obj)} {σ : L2.St} {H : Hp} {s : Shared} (I : Inv X pins σ H s) : Inv { X with xe := xe } pins σ H s :=
  ⟨⟨I.ok.mod, I.ok.kind, I.ok.glob, I.ok.blt, I.ok.above, I.ok.inj, I.ok.has, I.ok.cab, I.ok.hd, I.ok.frames, I.ok.stk, I.ok.exf, I.ok.bs, I.ok.bsz, I.ok.noex, I.ok.exfs, I.ok.funs, I.ok.frf⟩,
    I.os, I.bare, I.base, I.loc, I.cell, I.free, I.freeC, I.pin, I.hok, I.len⟩
theorem RS.start {K : PySem.W.Frag} {mg : Str → Option Value} {ρ : List Addr} {H : Hp} {ws : List Va} {vs : List V} (r : RWs K mg ρ H ws vs) (N : List Str) (n : Nat) (hn : n = N.length - ws.length) : RS K mg ρ H (ws.map some ++ List.replicate n none) (L2.start N vs) := by
  have l := r.len
  refine ⟨?_, fun i w e => ?_⟩
  · show _ = (vs.map some ++ List.replicate (N.length - vs.length) none).length
    rw [List.length_append, List.length_append, List.length_map, List.length_map, List.length_replicate, List.length_replicate]
    omega
  · by_cases hi : i < ws.length
    · rw [List.getElem?_append_left (by rw [List.length_map]; exact hi), List.getElem?_map] at e
      have e' : ws[i]? = some w := by
        rw [List.getElem?_eq_getElem hi] at e ⊢
        exact Option.some.inj e
      obtain ⟨v, ev, q⟩ := r.get e'
      refine ⟨v, ?_, q⟩
      show (vs.map some ++ List.replicate (N.length - vs.length) none)[i]? = _
      rw [List.getElem?_append_left (by rw [List.length_map]; omega), List.getElem?_map, ev]
      rfl
    · rw [List.getElem?_append_right (by rw [List.length_map]; omega), List.getElem?_replicate] at e
      split at e <;> cases e
/-- what the context of every body holds -/
structure Wrl (tb : Tb) (Γ : Ev) (P : Program) (w : World) (K : PySem.W.Frag) (mg : Str → Option Value) (base : Heap) (k : Nat) : Prop where
  fns : ∀ f ∈ tb.fs, ∃ a fd ps, mg f = some (.ref a) ∧ PySem.W.keepIn K (.ref a) = true ∧ Bn K fd ps (tb.pf f) ∧ FnG P w K mg base k a fd ps (Γ.call f)
  gvs : ∀ x ∈ tb.gs, ∀ w, Γ.gv x = some w → ∃ v u, mg x = some u ∧ RelV v u ∧ ∀ ρ H, RW K mg ρ H w v
  bs : ∀ x ∈ tb.bs, mg x = none
section
variable {P : Program} {w : World} {K : PySem.W.Frag} {mg : Str → Option Value} {base : Heap} {k : Nat} {f : Addr} {tb : Tb} {Γ : Ev}
/-- the call of a def, by its body -/
noncomputable def defR (Γ : Ev) (d : Df) (ws : List Va) (h : Hm) : Res Va := if ws.length = d.pars then handed (eSs Γ d.body (ws.map some ++ List.replicate (d.slots - d.pars) none) h) else .bad
theorem fn_G {x qual : Str} {params : Arguments} {body : List Stmt} {scope : Scope} {dvs : List V} {kws : List (Str × V)} {fd : FuncData} {N ps : List Str} {d : Df} (F : FunD K x qual params body scope dvs kws f fd) (S : FnScope N ps scope) (W : Wrl tb Γ P w K mg base k)
    (hp : d.pars = ps.length) (hs : d.slots = N.length) (hk : kSs ⟨tb, N, scope, fun _ => true⟩ d.body body = true) : FnG P w K mg base (k + 1) f fd ps (defR Γ d) := by
  refine ⟨fun ws h w h' e => ?_, fun A outer s H args us vs Q hr hg e0 hb r q => ?_⟩
  · unfold defR at e
    split at e
    · rename_i c
      rw [c, hp]
    · cases e
  obtain ⟨ρ, h, ws, wr, h', rh, rw_, e, q⟩ := q
  unfold defR at e
  split at e
  case isFalse => cases e
  rename_i hwl
  have hl : vs.length = ps.length := by rw [← rw_.len, hwl, hp]
  obtain ⟨oc, od, dV, kV, doc, pm, an, cdv, ct, osl, rfl, lk, hcd, _, _⟩ := F.ex
  have KX : K.In s.heap := e0.mod.kin.keeps fun b o e => (e0.bs b o e).1
  have lim : s.heap.NoLimit := e0.mod.nolimit.keeps fun b o e => (e0.bs b o e).1
  have hkind : ∀ y ∈ ps.zip us, scope.names.lookup y.1 = some .local ∨ (scope.names.lookup y.1 = some .cell ∧ ((cellsFrom (s.heap.objs.size + 1) scope.names []).lookup y.1).isSome = true) := fun y hy => by
    have m := (List.of_mem_zip (a := y.1) (b := y.2) hy).1
    exact (S.par _ m).imp_right fun q => ⟨q, PySem.W.cellsFrom_some _ _ _ (.inl q)⟩
  refine codeAny_call_function hr.depth (KX _ _ lk) rfl S.co S.gen rfl (PySem.W.codeRec_of KX hcd) (hb _ _ _ _ ?_)
  refine wpAny_newFunctionEnv_cells S.kind hkind fun env he s1 x => ?_
  subst he
  refine ⟨lim.keeps x.toInCall.keep, codeAny_func ?_⟩
  have I : Inv (cxG P w K mg base N qual scope f cdv A outer s H) [] (L2.start N vs) H s1 := inv_xe (inv_start (CX := CX0) (E := E0) S hr.hd e0 hl r x)
  have rd : Room k (A.deeper (envOfC qual scope s.heap.objs.size f cdv)) := hr.deeper _
  have stc : Stc ⟨tb, N, scope, fun _ => true⟩ Γ (cxG P w K mg base N qual scope f cdv A outer s H) := by
    refine ⟨rfl, S.nd, rfl, fun _ _ => rfl, ⟨rfl, ?_, hg⟩, PassesOwn.never, fun g hgm => ?_, W.gvs, W.bs⟩
    · have := rd.un
      show (A.deeper (envOfC qual scope s.heap.objs.size f cdv)).units + 200 < cLine
      omega
    · obtain ⟨a, fd2, ps2, g1, g2, g3, g4⟩ := W.fns g hgm
      exact ⟨k, a, fd2, ps2, g1, g2, g3, g4, rd⟩
  have run := okSs d.body _ _ body stc S.kind hk
  obtain ⟨fl, h1, e1, e⟩ := bind_eq_ok e
  refine wpAny_mono (run.run [] s1 _ H { nx := fun _ H' => Q .non H', rt := Q } I ⟨ρ, _, h, fl, h1, RS.start rw_ N _ (by rw [hwl, hs]), rh, e1, ?_⟩) (fun fl s' hs => ?_) fun e s' hs => hs.elim
  · cases fl with
    | nx σ1 => cases e; exact fun ρ' H' σ' f' rh' _ => q ρ' H' .non f' rh' .non
    | rt w1 => cases e; exact fun ρ' H' v f' rh' rv => q ρ' H' v f' rh' rv
    | ct σ1 => cases e
    | bk σ1 => cases e
  · cases fl with
    | ret u =>
      obtain ⟨v, σ', H', J, rv, q⟩ := hs
      exact ⟨v, H', J.os, J.bare, J.base, J.hok, rv, q⟩
    | next =>
      obtain ⟨σ', H', J, q⟩ := hs
      exact ⟨.non, H', J.os, J.bare, J.base, J.hok, rfl, q⟩
    | brk =>
      obtain ⟨_, _, _, q⟩ := hs
      exact q.elim
    | cont =>
      obtain ⟨_, _, _, q⟩ := hs
      exact q.elim
end
end Vy
set_option maxHeartbeats 2000000
/-! tables of defs; levels; the law's end -/
namespace Vy
open PySem PySem.Spec PyProof.Rows L2
theorem fm_congr {α β : Type} {f g : α → Option β} : ∀ {l : List α}, (∀ x ∈ l, f x = g x) → l.filterMap f = l.filterMap g
  | [], _ => rfl
  | a :: l, h => by
    rw [List.filterMap_cons, List.filterMap_cons, h a List.mem_cons_self, fm_congr fun x hx => h x (List.mem_cons_of_mem _ hx)]
theorem zip_look : ∀ {ps : List Str} {us : List Value}, us.length = ps.length → ps.Nodup → (ps.filter fun n => ((ps.zip us).lookup n).isNone) = [] ∧ (ps.filterMap fun n => ((ps.zip us).lookup n).map (n, ·)) = ps.zip us := by
  have key : ∀ (ps : List Str) (us : List Value), us.length = ps.length → ps.Nodup → ∀ n ∈ ps, ∃ v, (ps.zip us).lookup n = some v := by
    intro ps
    induction ps with
    | nil => intro us _ _ n hn; cases hn
    | cons p ps ih =>
      intro us hl nd n hn
      cases us with
      | nil => cases hl
      | cons u us =>
        rw [List.zip_cons_cons, List.lookup_cons]
        cases hb : n == p with
        | true => exact ⟨_, rfl⟩
        | false =>
          rcases List.mem_cons.mp hn with e | hn
          · rw [e] at hb; simp at hb
          · exact ih us (by simpa using hl) (List.nodup_cons.mp nd).2 n hn
  have flt : ∀ (ps : List Str) (us : List Value), us.length = ps.length → ps.Nodup → (ps.filterMap fun n => ((ps.zip us).lookup n).map (n, ·)) = ps.zip us := by
    intro ps
    induction ps with
    | nil => intro us _ _; rfl
    | cons p ps ih =>
      intro us hl nd
      cases us with
      | nil => cases hl
      | cons u us =>
        obtain ⟨n1, n2⟩ := List.nodup_cons.mp nd
        have i := ih us (by simpa using hl) n2
        rw [List.filterMap_cons, List.zip_cons_cons]
        have e1 : (List.lookup p ((p, u) :: ps.zip us)).map (p, ·) = some (p, u) := by rw [List.lookup_cons]; simp
        rw [e1]
        show (p, u) :: _ = _
        congr 1
        refine Eq.trans ?_ i
        refine fm_congr fun n hn => ?_
        rw [List.lookup_cons]
        have : (n == p) = false := by
          rw [beq_eq_false_iff_ne]
          intro e
          subst e
          exact n1 hn
        rw [this]
  intro ps us hl nd
  refine ⟨?_, flt ps us hl nd⟩
  rw [List.filter_eq_nil_iff]
  intro n hn
  obtain ⟨v, e⟩ := key ps us hl nd n hn
  rw [e]
  simp
theorem bind_pos {x qual : Str} {as : List Arg} {body : List Stmt} {scope : Scope} {kV doc pm cdv ct : Value} {an : Option Addr} {us : List Value} (nd : (as.map (·.arg)).Nodup) (hl : us.length = (as.map (·.arg)).length) :
    bindArgs (PySem.W.fnOf x qual ⟨[], as, none, [], [], none, []⟩ body scope .none kV doc pm an cdv ct) ⟨us, []⟩ = pure ((as.map (·.arg)).zip us) := by
  obtain ⟨h1, h2⟩ := zip_look hl nd
  unfold bindArgs
  simp only [PySem.W.fnOf, List.map_nil, List.nil_append, List.append_nil, List.forIn_nil]
  have hs : seqItems? (Value.none) = pure none := rfl
  simp only [hs, pure_bind, Option.getD_none, Array.toList_empty, List.drop_nil, List.length_nil, Nat.sub_zero]
  rw [List.take_of_length_le (Nat.le_refl _)]
  rw [List.filterMap_map] at h2
  simp only [h1, hl]
  simp
  rw [h2]
theorem look_none {α : Type} : ∀ {l : List (Str × α)} {k : Str}, k ∉ l.map (·.1) → l.lookup k = none
  | [], _, _ => rfl
  | (a, b) :: l, k, h => by
    simp only [List.map_cons, List.mem_cons, not_or] at h
    rw [List.lookup_cons]
    have : (k == a) = false := by rw [beq_eq_false_iff_ne]; exact h.1
    rw [this]
    exact look_none h.2
theorem forIn_kw {normal : List Str} {B : Str × Value → List (Str × Value) × List (Str × Value) → Sem (ForInStep (List (Str × Value) × List (Str × Value)))}
    (hB : ∀ x s e, normal.contains x.1 = true → s.lookup x.1 = none → B x (s, e) = pure (ForInStep.yield (s ++ [x], e))) : ∀ (l s e : List (Str × Value)), (∀ x ∈ l, normal.contains x.1 = true) → (s.map (·.1) ++ l.map (·.1)).Nodup →
    forIn l (s, e) B = pure (s ++ l, e)
  | [], s, e, _, _ => by simp
  | x :: l, s, e, h, nd => by
    have hn : x.1 ∉ s.map (·.1) := fun hm => by
      rw [List.nodup_append] at nd
      exact nd.2.2 x.1 hm x.1 (by simp) rfl
    rw [List.forIn_cons, hB x s e (h x List.mem_cons_self) (look_none hn), pure_bind]
    have := forIn_kw hB l (s ++ [x]) e (fun y hy => h y (List.mem_cons_of_mem _ hy)) (by
      rw [List.map_append, List.append_assoc]
      exact nd)
    simp only [this]
    simp
theorem zip_split {ps : List Str} {us ws : List Value} : ps.zip us ++ (ps.drop us.length).zip ws = ps.zip (us ++ ws) := by
  induction us generalizing ps with
  | nil => simp
  | cons u us ih =>
    cases ps with
    | nil => simp
    | cons p ps => simp [ih]
theorem bind_kw {x qual : Str} {as : List Arg} {body : List Stmt} {scope : Scope} {kV doc pm cdv ct : Value} {an : Option Addr} {us ws : List Value} (nd : (as.map (·.arg)).Nodup) (hl : us.length + ws.length = (as.map (·.arg)).length) :
    bindArgs (PySem.W.fnOf x qual ⟨[], as, none, [], [], none, []⟩ body scope .none kV doc pm an cdv ct) ⟨us, ((as.map (·.arg)).drop us.length).zip ws⟩ = pure ((as.map (·.arg)).zip (us ++ ws)) := by
  obtain ⟨h1, h2⟩ := zip_look (us := us ++ ws) (by rw [List.length_append]; exact hl) nd
  unfold bindArgs
  simp only [PySem.W.fnOf, List.map_nil, List.nil_append, List.append_nil]
  have hs : seqItems? (Value.none) = pure none := rfl
  simp only [hs, pure_bind, Option.getD_none, Array.toList_empty, List.drop_nil, List.length_nil, Nat.sub_zero]
  rw [forIn_kw (normal := as.map (·.arg)) (fun x s e hc hn => by simp only [hc, hn, Bool.true_or, if_true]; rfl) _ _ _ (fun y hy => by
    have := (List.of_mem_zip (a := y.1) (b := y.2) hy).1
    rw [List.contains_iff_mem]
    exact List.mem_of_mem_drop this) (by
    rw [← List.map_append, zip_split, List.map_fst_zip (by rw [List.length_append]; omega)]
    exact nd)]
  rw [pure_bind, zip_split]
  rw [List.take_of_length_le (Nat.le_refl _)]
  rw [List.filterMap_map] at h2
  have hg : ¬ (us.length > (as.map (·.arg)).length) := by omega
  simp only [h1]
  simp only [List.length_map] at hg
  simp [hg]
  rw [h2]
theorem FunD.bindsK {K : PySem.W.Frag} {x qual : Str} {params : Arguments} {body : List Stmt} {scope : Scope} {kws : List (Str × V)} {f : Addr} {fd : FuncData} {ps : List Str} (F : FunD K x qual params body scope [] kws f fd)
    (h : ∀ (kV doc pm : Value) (an : Option Addr) (cdv ct : Value) (us ws : List Value), us.length + ws.length = ps.length → bindArgs (PySem.W.fnOf x qual params body scope .none kV doc pm an cdv ct) ⟨us, (ps.drop us.length).zip ws⟩ = pure (ps.zip (us ++ ws))) (s : Shared) (us ws : List Value) (hl : us.length + ws.length = ps.length) : BindsTo s fd ⟨us, (ps.drop us.length).zip ws⟩ (ps.zip (us ++ ws)) := by
  obtain ⟨oc, od, dV, kV, doc, pm, an, cdv, ct, osl, rfl, lk, hcd, hD, hK⟩ := F.ex
  rcases hD with ⟨_, rfl⟩ | ⟨e, _⟩
  · exact .of_eq (h kV doc pm an cdv ct us ws hl)
  · exact absurd rfl e
/-! ### tables of defs -/
structure Fn where
  df : Df
  N : List Str
  dd : He.DefD
def Fn.ps (q : Fn) : List Str := q.dd.params.args.map (·.arg)
def plainPars (p : Arguments) : Bool := p.posonlyargs.isEmpty && p.vararg.isNone && p.kwonlyargs.isEmpty && p.kw_defaults.isEmpty && p.kwarg.isNone && p.defaults.isEmpty
theorem plainPars_ok {p : Arguments} (h : plainPars p = true) : p = ⟨[], p.args, none, [], [], none, []⟩ := by
  obtain ⟨p1, p2, p3, p4, p5, p6, p7⟩ := p
  unfold plainPars at h
  simp only [Bool.and_eq_true, List.isEmpty_iff, Option.isNone_iff_eq_none] at h
  obtain ⟨⟨⟨⟨⟨h1, h2⟩, h3⟩, h4⟩, h5⟩, h6⟩ := h
  subst h1 h2 h3 h4 h5 h6
  rfl
def scB (N ps : List Str) (sc : Scope) : Bool := decide (sc.kind = .function) && !sc.isCoroutine && !sc.isGenerator && decide N.Nodup && decide (N.take ps.length = ps) && ps.all (locB sc) && sc.names.all fun y => decide (y.2 ≠ .free)
theorem scB_ok {N ps : List Str} {sc : Scope} (h : scB N ps sc = true) : FnScope N ps sc := by
  unfold scB at h
  simp only [Bool.and_eq_true, decide_eq_true_eq, Bool.not_eq_true', List.all_eq_true] at h
  obtain ⟨⟨⟨⟨⟨⟨h1, h2⟩, h3⟩, h4⟩, h5⟩, h6⟩, h7⟩ := h
  exact ⟨h1, h2, h3, h4, h5, fun x hx => locB_ok (h6 x hx), h7⟩
def fnB (tb : Tb) (q : Fn) : Bool := plainPars q.dd.params && q.dd.dfl.isEmpty && q.dd.kwd.isEmpty && decide (q.dd.at_ = (q.dd.name, none)) && scB q.N q.ps q.dd.scope && decide (q.df.pars = q.ps.length) && decide (q.df.slots = q.N.length) &&
  kSs ⟨tb, q.N, q.dd.scope, fun _ => true⟩ q.df.body q.dd.body
def defsOf (T : List Fn) (x : Str) : Option Df := (T.map fun q => (q.dd.name, q.df)).lookup x
theorem look_nodup {α : Type} : ∀ {l : List (Str × α)} {x : Str} {a : α}, (l.map (·.1)).Nodup → (x, a) ∈ l → l.lookup x = some a
  | (y, b) :: l, x, a, nd, h => by
    rw [List.map_cons, List.nodup_cons] at nd
    rw [List.lookup_cons]
    rcases List.mem_cons.mp h with e | h'
    · cases e
      simp
    · have : (x == y) = false := by
        rw [beq_eq_false_iff_ne]
        intro e
        subst e
        exact nd.1 (List.mem_map.mpr ⟨_, h', rfl⟩)
      rw [this]
      exact look_nodup nd.2 h'
def pfOf (T : List Fn) (x : Str) : List Str := ((T.map fun q => (q.dd.name, q.ps)).lookup x).getD []
def tbOf (T : List Fn) (G : List (Str × Va)) (B : List Str) : Tb := ⟨T.map (·.dd.name), pfOf T, G.map (·.1), B⟩
def gvOf (G : List (Str × Va)) (x : Str) : Option Va := G.lookup x
section
variable {P : Program} {w : World} {K : PySem.W.Frag} {mg : Str → Option Value} {base : Heap} {T : List Fn} {G : List (Str × Va)} {B : List Str}
theorem look_mem {α : Type} : ∀ {l : List (Str × α)} {x : Str} {a : α}, l.lookup x = some a → (x, a) ∈ l := fun e => PySem.mem_of_lookup e
/-- all that is known of the module's names -/
structure Known (K : PySem.W.Frag) (mg : Str → Option Value) (T : List Fn) (G : List (Str × Va)) (B : List Str) : Prop where
  chk : (T.all (fnB (tbOf T G B))) = true
  nod : (T.map (·.dd.name)).Nodup
  fun_ : ∀ q ∈ T, ∃ fd, FunD K q.dd.name q.dd.qual q.dd.params q.dd.body q.dd.scope (q.dd.dvs K) (q.dd.kws K) (He.fAd K q.dd.at_) fd
  glo : ∀ q ∈ T, mg q.dd.name = some (.ref (He.ga K q.dd.name))
  cst : ∀ p ∈ G, ∃ v u, mg p.1 = some u ∧ RelV v u ∧ ∀ ρ H, RW K mg ρ H p.2 v
  free : ∀ x ∈ B, mg x = none
theorem pf_ok (Z : Known K mg T G B) {q : Fn} (hq : q ∈ T) : (tbOf T G B).pf q.dd.name = q.ps := by
  have : (T.map fun q => (q.dd.name, q.ps)).lookup q.dd.name = some q.ps := look_nodup (by rw [List.map_map]; exact Z.nod) (List.mem_map.mpr ⟨q, hq, rfl⟩)
  show ((T.map fun q => (q.dd.name, q.ps)).lookup q.dd.name).getD [] = q.ps
  rw [this]
  rfl
/-- a def of the table at a level -/
theorem fn_level (Z : Known K mg T G B) {n : Nat} (W : Wrl (tbOf T G B) ⟨callN (defsOf T) (gvOf G) n, gvOf G⟩ P w K mg base n) {q : Fn} (hq : q ∈ T) {fd : FuncData}
    (F : FunD K q.dd.name q.dd.qual q.dd.params q.dd.body q.dd.scope (q.dd.dvs K) (q.dd.kws K) (He.fAd K q.dd.at_) fd) : Bn K fd q.ps ((tbOf T G B).pf q.dd.name) ∧ PySem.W.keepIn K (.ref (He.ga K q.dd.name)) = true ∧ (∀ (s : Shared) (us : List Value), us.length = q.ps.length → BindsTo s fd ⟨us, []⟩ (q.ps.zip us)) ∧
      FnG P w K mg base (n + 1) (He.ga K q.dd.name) fd q.ps (callN (defsOf T) (gvOf G) (n + 1) q.dd.name) := by
  have hc := List.all_eq_true.mp Z.chk q hq
  unfold fnB at hc
  simp only [Bool.and_eq_true, decide_eq_true_eq] at hc
  obtain ⟨⟨⟨⟨⟨⟨⟨h1, h2⟩, h3⟩, h4⟩, h5⟩, h6⟩, h7⟩, h8⟩ := hc
  have S := scB_ok h5
  have nd : q.ps.Nodup := by rw [← S.pre]; exact S.nd.sublist (List.take_sublist _ _)
  have e1 : He.fAd K q.dd.at_ = He.ga K q.dd.name := by rw [h4]; rfl
  have e2 : q.dd.dvs K = [] := by
    have : q.dd.dfl = [] := List.isEmpty_iff.mp h2
    unfold He.DefD.dvs
    rw [this]
    rfl
  rw [e1, e2] at F
  have hb : ∀ (kV doc pm : Value) (an : Option Addr) (cdv ct : Value) (us : List Value), us.length = q.ps.length → bindArgs (PySem.W.fnOf q.dd.name q.dd.qual q.dd.params q.dd.body q.dd.scope .none kV doc pm an cdv ct) ⟨us, []⟩ = pure (q.ps.zip us) := by
    intro kV doc pm an cdv ct us hl
    rw [plainPars_ok h1]
    exact bind_pos nd hl
  have hkw : ∀ (s : Shared) (us ws : List Value), us.length + ws.length = q.ps.length → BindsTo s fd ⟨us, (q.ps.drop us.length).zip ws⟩ (q.ps.zip (us ++ ws)) := FunD.bindsK F fun kV doc pm an cdv ct us ws hl => by
    rw [plainPars_ok h1]
    exact bind_kw nd hl
  refine ⟨⟨F.bindsN hb, pf_ok Z hq, hkw⟩, F.kp, fun s us hl => F.bindsA hb s us hl, ?_⟩
  have G := fn_G (P := P) (w := w) (base := base) F S W h6 h7 h8
  have e3 : callN (defsOf T) (gvOf ‹_›) (n + 1) q.dd.name = defR ⟨callN (defsOf T) (gvOf ‹_›) n, gvOf ‹_›⟩ q.df := by
    funext ws h
    have ed : defsOf T q.dd.name = some q.df := look_nodup (by rw [List.map_map]; exact Z.nod) (List.mem_map.mpr ⟨q, hq, rfl⟩)
    show (match defsOf T q.dd.name with
      | some d => if ws.length = d.pars then handed (eSs ⟨callN (defsOf T) (gvOf _) n, gvOf _⟩ d.body (ws.map some ++ List.replicate (d.slots - d.pars) none) h) else .bad
      | none => .bad) = _
    rw [ed]
    rfl
  rw [e3]
  exact G
theorem levels (Z : Known K mg T G B) : ∀ n, Wrl (tbOf T G B) ⟨callN (defsOf T) (gvOf G) n, gvOf G⟩ P w K mg base n
  | 0 => by
    refine ⟨fun f hf => ?_, fun x hx w e => ?_, Z.free⟩
    · obtain ⟨q, hq, rfl⟩ := List.mem_map.mp hf
      have hc := List.all_eq_true.mp Z.chk q hq
      unfold fnB at hc
      simp only [Bool.and_eq_true, decide_eq_true_eq] at hc
      obtain ⟨⟨⟨⟨⟨⟨⟨h1, h2⟩, h3⟩, h4⟩, h5⟩, h6⟩, h7⟩, h8⟩ := hc
      obtain ⟨fd, F⟩ := Z.fun_ q hq
      have S := scB_ok h5
      have nd : q.ps.Nodup := by rw [← S.pre]; exact S.nd.sublist (List.take_sublist _ _)
      have e1 : He.fAd K q.dd.at_ = He.ga K q.dd.name := by rw [h4]; rfl
      have e2 : q.dd.dvs K = [] := by
        have : q.dd.dfl = [] := List.isEmpty_iff.mp h2
        unfold He.DefD.dvs
        rw [this]
        rfl
      rw [e1, e2] at F
      refine ⟨_, fd, q.ps, Z.glo q hq, F.kp, ⟨F.bindsN fun kV doc pm an cdv ct us hl => ?_, pf_ok Z hq, FunD.bindsK F fun kV doc pm an cdv ct us ws hl => ?_⟩, ⟨fun ws h w h' e => ?_, fun A outer s H args us vs Q _ _ _ _ _ z => ?_⟩⟩
      · rw [plainPars_ok h1]
        exact bind_pos nd hl
      · rw [plainPars_ok h1]
        exact bind_kw nd hl
      · cases e
      · obtain ⟨_, _, _, _, _, _, _, e, _⟩ := z
        cases e
    · exact Z.cst (x, w) (look_mem e)
  | n + 1 => by
    have W := levels Z n
    refine ⟨fun f hf => ?_, fun x hx w e => Z.cst (x, w) (look_mem e), Z.free⟩
    obtain ⟨q, hq, rfl⟩ := List.mem_map.mp hf
    obtain ⟨fd, F0⟩ := Z.fun_ q hq
    obtain ⟨b, k, _, F⟩ := fn_level Z W hq F0
    exact ⟨_, fd, q.ps, Z.glo q hq, k, b, F⟩
end
end Vy
set_option maxHeartbeats 2000000
/-! the law is called: from the head's facts to the evaluator -/
namespace Vy
open PySem PySem.Spec PyProof.Rows L2
/-- the script as a source of its own, whether it is one of the module's objects or not -/
theorem start_heap {P : Program} {w : World} {K : PySem.W.Frag} {mg mb : Str → Option Value} {s : Shared} {a : Addr} {vs : List Value} {ns : List Int}
    (KX : K.In s.heap) (hns : s.heap.Ns mainGlobals mg) (hb : s.heap.Ns builtinsNs mb) (hbb : ∀ x : Str, x ≠ "__name__" → mb x = bootBuiltins x) (hlim : s.heap.NoLimit) (hg : s.gens = #[])
    (ha : s.heap.get? a = some { cls := .type "list", data := .seq vs.toArray }) (hi : IntsAre vs ns) (hl : ns.length ≤ sizeLine) :
    ∃ (H : Hp) (base : Heap), Env0 P w K mg base callerA [] s H ∧ K.In base ∧ base.Ns mainGlobals mg ∧ RH K mg [a] H [.frz (ns.map Va.int)] ∧ (∀ b u, H b = some u → ∃ o, u = .frz o (.lst (ns.map V.int)) ∧ b = a) := by
  have rv := vals_ints hi
  have ln := hi.length
  -- what may be tracked: the script, or nothing
  suffices ∃ H : Hp, (∀ b u, H b = some u → ∃ o, u = .frz o (.lst (ns.map V.int)) ∧ b = a) ∧ HOk P w H s.heap ∧ FzL K H a (ns.map V.int) ∧ (H a ≠ none → K.lookup a = none) by
    obtain ⟨H, t1, t2, t3, t4⟩ := this
    have up : ∀ {b : Addr} {o : Obj}, s.heap.get? b = some o → H b = none → (hidT s.heap H).get? b = some o := fun e n => hidT_get e n
    have dictFree : ∀ {b : Addr} {o : Obj} {es : Array DictEntry} {ep : Nat}, s.heap.get? b = some o → o.data = .dict es ep → H b = none := fun {b o es ep} e d => by
      rcases hH : H b with _ | u
      · rfl
      · obtain ⟨_, _, rfl⟩ := t1 b u hH
        rw [ha] at e
        cases e
        exact nomatch (show Data.seq vs.toArray _ = Data.dict es ep from d)
    have nsUp : ∀ {b : Addr} {m : Str → Option Value}, s.heap.Ns b m → (hidT s.heap H).Ns b m := fun {b m} ⟨o, es, ep, e, d, r⟩ => ⟨o, es, ep, up e (dictFree e d), d, r⟩
    have kin : K.In (hidT s.heap H) := fun b o e => up (KX b o e) (by
      rcases hH : H b with _ | u
      · rfl
      · obtain ⟨_, _, rfl⟩ := t1 b u hH
        rw [t4 (by rw [hH]; simp)] at e
        cases e)
    refine ⟨H, hidT s.heap H, ⟨rfl, ⟨kin, nsUp hns, ⟨mb, nsUp hb, hbb⟩, ?_⟩, fun b o e => of_hidT e, Nat.le_of_eq (hidT_size _ _), trivial, fun b hb => ?_, t2, .of_eq hg⟩, kin, nsUp hns, ⟨rfl, fun i j c e1 e2 l1 l2 => ?_, fun i c b e1 e2 => ?_⟩, t1⟩
    · obtain ⟨mc, h1, h2⟩ := hlim
      exact ⟨mc, nsUp h1, h2⟩
    · exact absurd (show b ∈ ([] : List Addr) from hb) (by simp)
    · have i0 := (List.getElem?_eq_some_iff.mp e1).1
      have j0 := (List.getElem?_eq_some_iff.mp e2).1
      simp at i0 j0
      omega
    · have i0 := (List.getElem?_eq_some_iff.mp e2).1
      simp at i0
      subst i0
      simp at e1 e2
      subst e1 e2
      exact ⟨_, t3, ints_rws _⟩
  cases hk : K.lookup a with
  | some o =>
    have e := KX a o hk
    rw [ha] at e
    cases e
    exact ⟨fun _ => none, (fun b u z => nomatch (show (none : Option HO) = some u from z)), (fun b u z => nomatch (show (none : Option HO) = some u from z)), .inr ⟨_, vs.toArray, _, hk, rfl, rfl, rfl, by rw [List.size_toArray, ln]; exact hl, by simpa using rv⟩, fun z => absurd rfl z⟩
  | none =>
    refine ⟨fun b => if b = a then some (.frz { cls := .type "list", data := .seq vs.toArray } (.lst (ns.map V.int))) else none, fun b u z => ?_, fun b u z => ?_, .inl ⟨{ cls := .type "list", data := .seq vs.toArray }, if_pos rfl⟩, fun _ => rfl⟩
    · by_cases hb : b = a
      · have z' := (if_pos hb).symm.trans z
        cases z'
        exact ⟨_, rfl, hb⟩
      · have z' := (if_neg hb).symm.trans z
        cases z'
    · by_cases hb : b = a
      · have z' := (if_pos hb).symm.trans z
        cases z'
        subst hb
        exact ⟨ha, by rw [List.length_map]; exact hl, vs, _, rv, ha⟩
      · have z' := (if_neg hb).symm.trans z
        cases z'
/-- the call of the law's def -/
theorem call_law {P : Program} {w : World} {K : PySem.W.Frag} {mg mb : Str → Option Value} {k : Nat} {fa a : Addr} {fd : FuncData} {x : Str} {m : List Va → Hm → Res Va} {s : Shared} {vs : List Value} {ns : List Int} {hE : Hm}
    (KX : K.In s.heap) (hns : s.heap.Ns mainGlobals mg) (hb : s.heap.Ns builtinsNs mb) (hbb : ∀ x : Str, x ≠ "__name__" → mb x = bootBuiltins x) (hlim : s.heap.NoLimit) (hg : s.gens = #[])
    (ha : s.heap.get? a = some { cls := .type "list", data := .seq vs.toArray }) (hi : IntsAre vs ns) (hl : ns.length ≤ sizeLine) (hr : Room k callerA)
    (F : ∀ base : Heap, K.In base → base.Ns mainGlobals mg → FnG P w K mg base k fa fd [x] m) (bt : ∀ (s : Shared) (u : Value), BindsTo s fd ⟨[u], []⟩ [(x, u)])
    (e : m [.ref 0] [.frz (ns.map Va.int)] = .ok (.bl true) hE) :
    codeAny (model P w) callerA (.call (.ref fa) ⟨[.ref a], []⟩) (fun r s' => r = .ok (.ret (.bool true)) ∧ OldK s.heap s'.heap ∧ s'.os = s.os ∧ AllBare s'.gens) s := by
  obtain ⟨H, base, e0, kb, nb, rh, only⟩ := start_heap (P := P) (w := w) KX hns hb hbb hlim hg ha hi hl
  refine codeAny_mono ((F base kb nb).run callerA [] s H ⟨[.ref a], []⟩ [.ref a] [.ref a] (fun v _ => v = .bl true) hr rfl e0 (bt s (.ref a)) (.cons rfl .nil)
    ⟨[a], _, [.ref 0], .bl true, hE, rh, .cons (.ref rfl) .nil, e, fun ρ' H' v f' rh' rv => by cases rv; rfl⟩) fun r s' h => ?_
  cases r with
  | error e => exact h.elim
  | ok fl =>
    cases fl with
    | next => exact False.elim h
    | brk => exact False.elim h
    | cont => exact False.elim h
    | ret u =>
      obtain ⟨v, H', os, bare, un, hok', r', q⟩ := h
      have q' : v = .bl true := q
      subst q'
      obtain rfl : u = Value.bool true := r'
      refine ⟨rfl, OldK.of_keep fun b o e => ?_, os, bare⟩
      rcases hH : H b with _ | t
      · exact un.keep b o e hH (by intro z; exact absurd (show b ∈ ([] : List Addr) from z) (by simp)) (by simp)
      · obtain ⟨ob, rfl, rfl⟩ := only b t hH
        obtain ⟨z, _⟩ := hok' _ _ (un.frzs _ ob _ hH)
        obtain ⟨z0, _⟩ := e0.hok _ _ hH
        rw [e] at z0
        cases z0
        exact z
/-- the end of a law row -/
theorem walk_G {l : PySem.W.OpenLaw} {n k : Nat} {q : Program} {loose : List Str} {XP : (Str → Option Value) → Heap → Prop} {YP : World → Heap → Prop} {d : DefRec} {x : Str}
    (hn : l.most = some n) (hn2 : n ≤ sizeLine) (hdf : d.params.defaults = []) (hr : Room k callerA)
    (F : ∀ (w : World) (mg : Str → Option Value) (fa : Addr) (h : Heap), YP w h → h.Ns mainGlobals mg → mg d.name = some (.ref fa) →
      ∃ (K : PySem.W.Frag) (fd : FuncData) (m : List Va → Hm → Res Va), K.In h ∧ (∀ (s : Shared) (u : Value), BindsTo s fd ⟨[u], []⟩ [(x, u)]) ∧ (∀ ns : List Int, ns.length ≤ n → ∃ hE, m [.ref 0] [.frz (ns.map Va.int)] = .ok (.bl true) hE) ∧
        ∀ base : Heap, K.In base → base.Ns mainGlobals mg → FnG l.prog w K mg base k fa fd [x] m) :
    PySem.W.WalkO q loose XP YP l.row.toRowW d [] (fun f vs => PySem.call f vs) := by
  refine Att.attach_call hn hdf fun w s₀ s₁ mg mb fa o pm cd doc a vs ns G Y ho hd hcd hmg hobj hints hlen hg => ?_
  obtain ⟨K, fd, m, KX, hb, hm, hF⟩ := F w mg fa _ Y G.T.g hmg
  obtain ⟨hE, e⟩ := hm ns hlen
  exact call_law KX G.T.g G.T.b G.T.builtins G.T.nolimit hg hobj hints (Nat.le_trans hlen hn2) hr hF hb e
/-- the head's facts, kept: all names known -/
theorem known_of {K : PySem.W.Frag} {h : Heap} {mg : Str → Option Value} {T : List Fn} {G : List (Str × Va)} {B : List Str} {fa : List He.Fa} (X : K.In h) (N : h.Ns mainGlobals mg) (c : He.SaysD fa (T.map (·.dd)) K)
    (chk : (T.all (fnB (tbOf T G B))) = true) (nod : (T.map (·.dd.name)).Nodup) (f1 : ∀ q ∈ T, He.Fa.glo q.dd.name ∈ fa) (f2 : ∀ x ∈ B, He.Fa.free x ∈ fa) (cst : ∀ p ∈ G, ∃ v u, mg p.1 = some u ∧ RelV v u ∧ ∀ ρ H, RW K mg ρ H p.2 v) : Known K mg T G B :=
  ⟨chk, nod, fun q hq => c.defs (List.mem_map.mpr ⟨q, hq, rfl⟩), fun q hq => He.glo_ok X N (c.facts (f1 q hq)), cst, fun x hx => He.free_ok X N (c.facts (f2 x hx))⟩
/-! ### constants of the module; the hook; all facts of a table -/
inductive Cn where
  | int (i : Int)
  | str (x : Str)
  | il (l : List Int)
  | sl (l : List Str)
def Cn.va : Cn → Va
  | .int i => .int i
  | .str x => .str x
  | .il l => .tup (l.map .int)
  | .sl l => .tup (l.map .str)
def Cn.fa (x : Str) : Cn → He.Fa
  | .int i => .int x i
  | .str z => .str x z
  | .il _ => .glo x
  | .sl _ => .glo x
def Cn.ex (K : PySem.W.Frag) (x : Str) : Cn → Bool
  | .il l => He.tupB K x (l.map He.Dv.int)
  | .sl l => He.tupB K x (l.map He.Dv.str)
  | _ => true
def faOf (T : List Fn) (C : List (Str × Cn)) (B : List Str) : List He.Fa := (T.map fun q => .glo q.dd.name) ++ ((C.map fun p => p.2.fa p.1) ++ B.map .free)
def exOf (C : List (Str × Cn)) (K : PySem.W.Frag) : Bool := C.all fun p => p.2.ex K p.1
/-- the head's hook with one more Bool -/
def hookG (n : Nat) (fa : List He.Fa) (fn : List He.DefD) (ex : PySem.W.Frag → Bool) : PySem.W.Hook where
  α := He.AlD × Bool
  obs := fun s => (He.obsD fa fn (He.frG s.heap.get? (He.asD s.heap.get? n)), ex (He.frG s.heap.get? (He.asD s.heap.get? n)))
  val := fun _ => (He.valD fn, true)
  says := fun _ h => ∃ K : PySem.W.Frag, K.In h ∧ He.SaysD fa fn K ∧ ex K = true
  of := fun _ _ e => ⟨_, He.frG_in, congrArg (fun z : He.AlD × Bool => z.1) e, congrArg (fun z : He.AlD × Bool => z.2) e⟩
  keeps := fun _ _ _ ⟨K, hK, c⟩ k => ⟨K, PySem.W.Frag.In.keeps hK k, c⟩
def obG (n : Nat) (fa : List He.Fa) (fn : List He.DefD) (ex : PySem.W.Frag → Bool) (s : PySem.W.SharedT) : He.AlD × Bool := (He.obsD fa fn (He.frG (HandSHeadRun.getT s) (He.asD (HandSHeadRun.getT s) n)), ex (He.frG (HandSHeadRun.getT s) (He.asD (HandSHeadRun.getT s) n)))
theorem obG_eq (n : Nat) (fa : List He.Fa) (fn : List He.DefD) (ex : PySem.W.Frag → Bool) (s : PySem.W.SharedT) : obG n fa fn ex s = (hookG n fa fn ex).obs s.abs := by
  have e : HandSHeadRun.getT s = s.abs.heap.get? := funext (HandSHeadRun.getT_eq s)
  unfold obG
  rw [e]
  rfl
theorem rws_int {K : PySem.W.Frag} {mg : Str → Option Value} {ρ : List Addr} {H : Hp} : ∀ l : List Int, RWs K mg ρ H (l.map Va.int) ((l.map He.Dv.int).map (He.Dv.v K))
  | [] => .nil
  | i :: l => .cons (.int i) (rws_int l)
theorem rws_str {K : PySem.W.Frag} {mg : Str → Option Value} {ρ : List Addr} {H : Hp} : ∀ l : List Str, RWs K mg ρ H (l.map Va.str) ((l.map He.Dv.str).map (He.Dv.v K))
  | [] => .nil
  | i :: l => .cons (.str i) (rws_str l)
theorem known_all {K : PySem.W.Frag} {h : Heap} {mg : Str → Option Value} {T : List Fn} {C : List (Str × Cn)} {B : List Str} (X : K.In h) (N : h.Ns mainGlobals mg) (c : He.SaysD (faOf T C B) (T.map (·.dd)) K) (ex : exOf C K = true)
    (chk : (T.all (fnB (tbOf T (C.map fun p => (p.1, p.2.va)) B))) = true) (nod : (T.map (·.dd.name)).Nodup) : Known K mg T (C.map fun p => (p.1, p.2.va)) B := by
  refine known_of X N c chk nod (fun q hq => List.mem_append_left _ (List.mem_map.mpr ⟨q, hq, rfl⟩)) (fun x hx => List.mem_append_right _ (List.mem_append_right _ (List.mem_map.mpr ⟨x, hx, rfl⟩))) fun p hp => ?_
  obtain ⟨⟨x, n⟩, hq, rfl⟩ := List.mem_map.mp hp
  have f := c.facts (f := n.fa x) (List.mem_append_right _ (List.mem_append_left _ (List.mem_map.mpr ⟨(x, n), hq, rfl⟩)))
  have e : n.ex K x = true := List.all_eq_true.mp ex (x, n) hq
  cases n with
  | int i =>
    obtain ⟨t, e⟩ := He.int_ok X N f
    exact ⟨.int i, _, e, ⟨t, rfl⟩, fun ρ H => .int i⟩
  | str z =>
    obtain ⟨t, e⟩ := He.str_ok X N f
    exact ⟨.str z, _, e, ⟨t, rfl⟩, fun ρ H => .str z⟩
  | il l => exact ⟨.ref (He.ga K x), _, He.glo_ok X N f, rfl, fun ρ H => .tup (He.tupB_ok e H) (rws_int l)⟩
  | sl l => exact ⟨.ref (He.ga K x), _, He.glo_ok X N f, rfl, fun ρ H => .tup (He.tupB_ok e H) (rws_str l)⟩
/-- the law's walk, from a table: k levels -/
theorem walk_T {l : PySem.W.OpenLaw} {n k : Nat} {q : Program} {loose : List Str} {XP : (Str → Option Value) → Heap → Prop} {w0 : Nat} {d : DefRec} {T : List Fn} {C : List (Str × Cn)} {B : List Str} {qL : Fn} {x : Str}
    (hn : l.most = some n) (hn2 : n ≤ sizeLine) (hdf : d.params.defaults = []) (hr : Room (k + 1) callerA) (chk : (T.all (fnB (tbOf T (C.map fun p => (p.1, p.2.va)) B))) = true) (nod : (T.map (·.dd.name)).Nodup) (hL : qL ∈ T) (hx : qL.ps = [x]) (hd : d.name = qL.dd.name)
    (main : ∀ ns : List Int, ns.length ≤ n → ∃ hE, callN (defsOf T) (gvOf (C.map fun p => (p.1, p.2.va))) (k + 1) qL.dd.name [.ref 0] [.frz (ns.map Va.int)] = .ok (.bl true) hE) :
    PySem.W.WalkO q loose XP (hookG w0 (faOf T C B) (T.map (·.dd)) (exOf C)).says l.row.toRowW d [] (fun f vs => PySem.call f vs) := by
  refine walk_G (x := x) (k := k + 1) hn hn2 hdf hr fun w mg fa h Y N hmg => ?_
  obtain ⟨K, KX, c, ex⟩ := Y
  have Z := known_all KX N c ex chk nod
  have efa : fa = He.ga K qL.dd.name := by
    have e := Z.glo qL hL
    rw [hd, e] at hmg
    have e2 := Option.some.inj hmg
    injection e2 with e2
    exact e2.symm
  subst efa
  obtain ⟨fd, F⟩ := Z.fun_ qL hL
  have key := fun base : Heap => fn_level (P := l.prog) (w := w) (base := base) Z (levels Z k) hL F
  refine ⟨K, fd, _, KX, fun s u => ?_, main, fun base kb nb => ?_⟩
  · have := (key h).2.2.1 s [u] (by rw [hx]; rfl)
    rw [hx] at this
    exact this
  · have := (key base).2.2.2
    rw [hx] at this
    exact this
/-- the whole law, from a table -/
theorem holds_T {l : PySem.W.OpenLaw} {T : List Fn} {C : List (Str × Cn)} {B : List Str} {ix M w0 n k : Nat} {loose : List Str} {qL : Fn} {x : Str}
    (run : ∀ w : World, HandSHeadRun.RunEq (PySem.W.OpenLaw.row l) (PySem.W.view (PySem.W.OpenLaw.row l).prog [ix]) (hookG w0 (faOf T C B) (T.map (·.dd)) (exOf C)) (obG w0 (faOf T C B) (T.map (·.dd)) (exOf C)) M loose w)
    (b1 : PySem.W.opening (PySem.W.OpenLaw.row l).prog = PySem.W.plainProg (PySem.W.OpenLaw.row l).prog.main.scope.names) (b2 : ∀ s, fenceModules? (PySem.W.OpenLaw.row l).prog s = some s)
    (b3 : PySem.W.defOf (PySem.W.view (PySem.W.OpenLaw.row l).prog [ix]) (PySem.W.OpenLaw.row l).name = some (HandSHeadRun.topDef (PySem.W.OpenLaw.row l).prog ix, []))
    (b4 : (PySem.W.OpenLaw.row l).prog.theDef (PySem.W.OpenLaw.row l).name = some ((HandSHeadRun.topDef (PySem.W.OpenLaw.row l).prog ix).params, (HandSHeadRun.topDef (PySem.W.OpenLaw.row l).prog ix).body, (HandSHeadRun.topDef (PySem.W.OpenLaw.row l).prog ix).scope))
    (b5 : PySem.W.kwWritten? (HandSHeadRun.topDef (PySem.W.OpenLaw.row l).prog ix).params.kwonlyargs (HandSHeadRun.topDef (PySem.W.OpenLaw.row l).prog ix).params.kw_defaults = some [])
    (b6 : (!(PySem.W.OpenLaw.row l).writes || (PySem.W.OpenLaw.row l).records.isEmpty) = true) (b7 : (PySem.W.OpenLaw.row l).wellSaid = true)
    (b8 : (PySem.W.chainsOk (PySem.W.view (PySem.W.OpenLaw.row l).prog [ix]) && PySem.W.opensWell (PySem.W.OpenLaw.row l).prog && (PySem.W.frees (PySem.W.OpenLaw.row l).toRowW && (PySem.W.OpenLaw.row l).within.isEmpty)) = true)
    (b9 : (PySem.W.OpenLaw.row l).prog.bare) (b10 : (PySem.W.OpenLaw.row l).toRowW.promised)
    (hn : l.most = some n) (hn2 : n ≤ sizeLine) (hdf : (HandSHeadRun.topDef (PySem.W.OpenLaw.row l).prog ix).params.defaults = []) (hr : Room (k + 1) callerA) (chk : (T.all (fnB (tbOf T (C.map fun p => (p.1, p.2.va)) B))) = true) (nod : (T.map (·.dd.name)).Nodup) (hL : qL ∈ T) (hx : qL.ps = [x])
    (hd : (HandSHeadRun.topDef (PySem.W.OpenLaw.row l).prog ix).name = qL.dd.name)
    (main : ∀ ns : List Int, ns.length ≤ n → ∃ hE, callN (defsOf T) (gvOf (C.map fun p => (p.1, p.2.va))) (k + 1) qL.dd.name [.ref 0] [.frz (ns.map Va.int)] = .ok (.bl true) hE) : (PySem.W.OpenLaw.row l).Holds :=
  HandSHeadRun.head_any (d := HandSHeadRun.topDef (PySem.W.OpenLaw.row l).prog ix) (kwd := []) (obG_eq w0 (faOf T C B) (T.map (·.dd)) (exOf C)) b1 b2 run b3 b4 b5 b6 b7 b8 b9 b10 (walk_T hn hn2 hdf hr chk nod hL hx hd main)
end Vy
set_option maxHeartbeats 200000
/-! the program's functions of numbers, points and shapes, as functions of Lean -/
namespace Mr
def fN {β : Type} (n : Nat) (k : Nat → β) : β := match n with
  | 0 => k 0
  | .succ j => k (.succ j)
def fI {β : Type} (i : Int) (k : Int → β) : β := match i with
  | .ofNat n => fN n fun n => k (.ofNat n)
  | .negSucc n => fN n fun n => k (.negSucc n)
abbrev Fr := Int × Int
abbrev Pt := Fr × Fr
abbrev Pr := Int × Int
/-- a product is not too large -/
def ltI (i j : Int) : Bool := match i with
  | .ofNat a => (match j with
    | .ofNat b => Nat.blt a b
    | .negSucc _ => false)
  | .negSucc a => (match j with
    | .ofNat _ => true
    | .negSucc b => Nat.blt b a)
def eqI (i j : Int) : Bool := match i with
  | .ofNat a => (match j with
    | .ofNat b => Nat.beq a b
    | .negSucc _ => false)
  | .negSucc a => (match j with
    | .ofNat _ => false
    | .negSucc b => Nat.beq a b)
def posI (i : Int) : Bool := match i with
  | .ofNat a => Nat.blt 0 a
  | .negSucc _ => false
def negI (i : Int) : Bool := match i with
  | .ofNat _ => false
  | .negSucc _ => true
def smN (i j : Int) : Bool := Nat.blt (Nat.add (Nat.log2 i.natAbs) (Nat.log2 j.natAbs)) 134000000
/-- a divisor is not 0, and not too large -/
def dvN (j : Int) : Bool := match j.natAbs with
  | 0 => false
  | .succ n => Nat.blt (Nat.log2 (.succ n)) 8900
def mulO (i j : Int) : Option Int := match smN i j with
  | true => fI (Int.mul i j) some
  | false => none
def fdivO (i j : Int) : Option Int := match dvN j with
  | true => fI (Int.fdiv i j) some
  | false => none
def frO (t b : Int) : Option Fr := match dvN b with
  | true => fN (Nat.gcd t.natAbs b.natAbs) fun g => match posI b with
    | true => fI (Int.fdiv t (.ofNat g)) fun x => fI (Int.fdiv b (.ofNat g)) fun y => some (x, y)
    | false => fI (Int.fdiv t (Int.neg (.ofNat g))) fun x => fI (Int.fdiv b (Int.neg (.ofNat g))) fun y => some (x, y)
  | false => none
def plusO (x y : Fr) : Option Fr := match smN x.1 y.2 && smN y.1 x.2 && smN x.2 y.2 with
  | true => fI (Int.add (Int.mul x.1 y.2) (Int.mul y.1 x.2)) fun t => fI (Int.mul x.2 y.2) fun b => frO t b
  | false => none
def lessO (x y : Fr) : Option Fr := match smN x.1 y.2 && smN y.1 x.2 && smN x.2 y.2 with
  | true => fI (Int.sub (Int.mul x.1 y.2) (Int.mul y.1 x.2)) fun t => fI (Int.mul x.2 y.2) fun b => frO t b
  | false => none
def timesO (x y : Fr) : Option Fr := match smN x.1 y.1 && smN x.2 y.2 with
  | true => fI (Int.mul x.1 y.1) fun t => fI (Int.mul x.2 y.2) fun b => frO t b
  | false => none
def overO (x y : Fr) : Option Fr := match smN x.1 y.2 && smN x.2 y.1 with
  | true => fI (Int.mul x.1 y.2) fun t => fI (Int.mul x.2 y.1) fun b => frO t b
  | false => none
def comparedO (x y : Fr) : Option Int := match smN x.1 y.2 && smN y.1 x.2 with
  | true => match Int.sub (Int.mul x.1 y.2) (Int.mul y.1 x.2) with
    | .ofNat 0 => some 0
    | .ofNat (.succ _) => some 1
    | .negSucc _ => some (-1)
  | false => none
def belowO (x y : Fr) : Option Bool := match smN x.1 y.2 && smN y.1 x.2 with
  | true => match ltI (Int.mul x.1 y.2) (Int.mul y.1 x.2) with
    | true => some true
    | false => some false
  | false => none
def isFr (x : Fr) : Bool := posI x.2 && Nat.beq (Nat.gcd x.1.natAbs x.2.natAbs) 1
def isPt (p : Pt) : Bool := isFr p.1 && isFr p.2
def oneBottomFr (f : Int) (x : Fr) : Option Int := fI (.ofNat (Nat.gcd f.natAbs x.2.natAbs)) fun g => (fdivO f g).bind fun q => mulO q x.2
def oneBottomL : List Pt → Int → Option Int
  | [], f => some f
  | p :: l, f => (oneBottomFr f p.1).bind fun f => (oneBottomFr f p.2).bind fun f => oneBottomL l f
def oneBottomO (l : List Pt) : Option Int := oneBottomL l 1
def scaledO : List Pt → Int → Option (List Pr)
  | [], _ => some []
  | p :: l, b => (fdivO b p.1.2).bind fun u => (mulO p.1.1 u).bind fun x => (fdivO b p.2.2).bind fun v => (mulO p.2.1 v).bind fun y => (scaledO l b).bind fun r => some ((x, y) :: r)
def unscaledO : List Pr → Int → Option (List Pt)
  | [], _ => some []
  | p :: l, b => (frO p.1 b).bind fun x => (frO p.2 b).bind fun y => (unscaledO l b).bind fun r => some ((x, y) :: r)
def turnO (a b c : Pr) : Option Int := fI (Int.sub b.1 a.1) fun x => fI (Int.sub c.2 a.2) fun y => fI (Int.sub b.2 a.2) fun z => fI (Int.sub c.1 a.1) fun w => match smN x y && smN z w with
  | true => fI (Int.sub (Int.mul x y) (Int.mul z w)) some
  | false => none
/-- the corners found, the last one first -/
def popO (p : Pr) : List Pr → Option (List Pr)
  | b :: a :: r => match turnO a b p with
    | some (.ofNat (.succ _)) => some (b :: a :: r)
    | some _ => popO p (a :: r)
    | none => none
  | r => some r
def halfL : List Pr → List Pr → Option (List Pr)
  | [], f => some f
  | p :: l, f => (popO p f).bind fun f => halfL l (p :: f)
/-- half_hull, the last one first -/
def halfO (l : List Pr) : Option (List Pr) := halfL l []
def ltPr (p q : Pr) : Bool := match ltI p.1 q.1 with
  | true => true
  | false => match eqI p.1 q.1 with
    | true => ltI p.2 q.2
    | false => false
def insP (a : Pr) : List Pr → List Pr
  | [] => [a]
  | b :: l => match ltPr b a with
    | true => b :: insP a l
    | false => a :: b :: l
def sortP : List Pr → List Pr
  | [] => []
  | a :: l => insP a (sortP l)
def memP (p : Pr) : List Pr → Bool
  | [] => false
  | q :: l => match eqI p.1 q.1 && eqI p.2 q.2 with
    | true => true
    | false => memP p l
def dedup : List Pr → List Pr → List Pr
  | [], acc => acc
  | p :: l, acc => match memP p acc with
    | true => dedup l acc
    | false => dedup l (acc ++ [p])
def fL {α β : Type} : List α → (List α → β) → β
  | [], k => k []
  | a :: l, k => fL l fun l => k (a :: l)
def pairsHullO (l : List Pr) : Option (List Pr) := fL (sortP (dedup l [])) fun some_ => match some_ with
  | [] => some []
  | [a] => some [a]
  | l => (halfO l).bind fun f => (halfO l.reverse).bind fun g => fL ((f.drop 1).reverse ++ (g.drop 1).reverse) some
def hullO (l : List Pt) : Option (List Pt) := match Nat.ble l.length 1000 with
  | true => (oneBottomO l).bind fun b => (scaledO l b).bind fun s => (pairsHullO s).bind fun h => match Nat.ble h.length 4000 with
    | true => unscaledO h b
    | false => none
  | false => none
def eqFr (x y : Fr) : Bool := eqI x.1 y.1 && eqI x.2 y.2
def eqPt (x y : Pt) : Bool := eqFr x.1 y.1 && eqFr x.2 y.2
def eqSh : List Pt → List Pt → Bool
  | [], [] => true
  | a :: l, b :: m => eqPt a b && eqSh l m
  | _, _ => false
def isShapeO (l : List Pt) : Option Bool := match l.all isPt with
  | false => some false
  | true => (hullO l).bind fun h => match eqSh h l with
    | true => some true
    | false => some false
def worthO (p : Pt) (a b : Fr) : Option Fr := (timesO a p.1).bind fun x => (timesO b p.2).bind fun y => plusO x y
def crossFr (part mine its : Fr) : Option Fr := (lessO its mine).bind fun d => (timesO part d).bind fun t => plusO mine t
def crossingO (one other : Pt) (here there : Fr) : Option Pt := (lessO here there).bind fun d => (overO here d).bind fun part => (crossFr part one.1 other.1).bind fun x => (crossFr part one.2 other.2).bind fun y => some (x, y)
def restsO (a b high : Fr) : List Pt → Option (List Fr)
  | [] => some []
  | p :: l => (worthO p a b).bind fun w => (lessO w high).bind fun r => (restsO a b high l).bind fun rs => some (r :: rs)
/-- prev: the corner ahead and its rest -/
def keptL : Pt → Fr → List Pt → List Fr → Option (List Pt)
  | pp, pr, p :: l, r :: rs =>
    (match (negI r.1 && posI pr.1) || (negI pr.1 && posI r.1) with
      | true => (crossingO pp p pr r).bind fun c => some [c]
      | false => some []).bind fun c =>
    (keptL p r l rs).bind fun t => match (!posI r.1) with
      | true => some (c ++ p :: t)
      | false => some (c ++ t)
  | _, _, _, _ => some []
def keptO (s : List Pt) (a b high : Fr) : Option (List Pt) := match s with
  | [] => some []
  | p :: l => (restsO a b high (p :: l)).bind fun rs => (keptL ((p :: l).getLastD p) (rs.getLastD (0, 1)) (p :: l) rs).bind fun f => hullO f
def turnedF (x : Fr) : Fr := fI (Int.neg x.1) fun i => (i, x.2)
def wholeF (i : Int) : Fr := (i, 1)
def clippedByO (s : List Pt) (a b : Fr) (low high : Option Fr) : Option (List Pt) :=
  (match high with
    | none => some s
    | some h => keptO s a b h).bind fun s => match low with
    | none => some s
    | some l => keptO s (turnedF a) (turnedF b) (turnedF l)
structure Hp where
  a : Fr
  b : Fr
  high : Fr
def rightOfO (one other : Pt) : Option Hp := (lessO other.2 one.2).bind fun a => (lessO one.1 other.1).bind fun b => (worthO one a b).bind fun h => some ⟨a, b, h⟩
def alongO (one other : Pt) : Option Hp := (lessO other.1 one.1).bind fun a => (lessO other.2 one.2).bind fun b => (worthO other a b).bind fun h => some ⟨a, b, h⟩
def rightsO : Pt → List Pt → Option (List Hp)
  | _, [] => some []
  | q, p :: l => (rightOfO q p).bind fun h => (rightsO p l).bind fun t => some (h :: t)
def halfPlanesO (s : List Pt) : Option (List Hp) := match s with
  | [] => none
  | [p] => some [⟨(1, 1), (0, 1), p.1⟩, ⟨(-1, 1), (0, 1), turnedF p.1⟩, ⟨(0, 1), (1, 1), p.2⟩, ⟨(0, 1), (-1, 1), turnedF p.2⟩]
  | [p, q] => (rightOfO p q).bind fun a => (rightOfO q p).bind fun b => (alongO p q).bind fun c => (alongO q p).bind fun d => some [a, b, c, d]
  | p :: l => rightsO ((p :: l).getLastD p) (p :: l)
def keptsO : List Hp → List Pt → Option (List Pt)
  | [], s => some s
  | h :: l, s => (keptO s h.a h.b h.high).bind fun s => keptsO l s
def bothO (one other : List Pt) : Option (List Pt) := match other with
  | [] => some []
  | _ => (halfPlanesO other).bind fun hs => keptsO hs one
def sidesO (p : Pt) : List Hp → Option (List Int)
  | [] => some []
  | h :: l => (worthO p h.a h.b).bind fun w => (comparedO h.high w).bind fun c => (sidesO p l).bind fun t => some (c :: t)
def minF : List Int → Int → Int
  | [], a => a
  | b :: l, a => match ltI b a with
    | true => minF l b
    | false => minF l a
def minI : List Int → Int
  | [] => 0
  | a :: l => minF l a
def whereO (s : List Pt) (p : Pt) : Option Int := match s with
  | [] => some (-1)
  | _ => (halfPlanesO s).bind fun hs => (sidesO p hs).bind fun sd => match negI (minI sd) with
    | true => some (-1)
    | false => match Nat.blt 2 s.length && posI (minI sd) with
      | true => some 1
      | false => some 0
def shearedL (by_ : Int) : List Pt → Option (List Pt)
  | [] => some []
  | p :: l => (timesO (by_, 1) p.2).bind fun t => (plusO p.1 t).bind fun x => (shearedL by_ l).bind fun r => some ((x, p.2) :: r)
def shearedByO (s : List Pt) (by_ : Int) : Option (List Pt) := (shearedL by_ s).bind hullO
def stretchedL (low high : Fr) : List Pt → Option (List Pt)
  | [] => some []
  | p :: l => (plusO p.2 low).bind fun a => (plusO p.2 high).bind fun b => (stretchedL low high l).bind fun r => some ((p.1, a) :: (p.1, b) :: r)
def stretchedByO (s : List Pt) (low high : Fr) : Option (List Pt) := (stretchedL low high s).bind hullO
def formO (x : Pt) (p q : Int) : Option Fr := (mulO p x.1.1).bind fun a => (mulO a x.2.2).bind fun a => (mulO q x.2.1).bind fun b => (mulO b x.1.2).bind fun b => (mulO x.1.2 x.2.2).bind fun c => fI (Int.add a b) fun t => frO t c
def formsO (p q : Int) : List Pt → Option (List (Fr × Pt))
  | [] => some []
  | x :: l => (formO x p q).bind fun f => (formsO p q l).bind fun r => some ((f, x) :: r)
def endsL : List (Fr × Pt) → Fr × Pt → Fr × Pt → Option ((Fr × Pt) × (Fr × Pt))
  | [], a, b => some (a, b)
  | x :: l, a, b => (belowO x.1 a.1).bind fun t => (belowO b.1 x.1).bind fun u => endsL l (match t with
    | true => x
    | false => a) (match u with
    | true => x
    | false => b)
/-- the least and the greatest, each with a corner; for a shape with corners -/
def endsO (s : List Pt) (p q : Int) : Option ((Fr × Pt) × (Fr × Pt)) := (formsO p q s).bind fun l => match l with
  | [] => none
  | x :: l => endsL l x x
def areaL : Pr → List Pr → Option (List Int)
  | _, [] => some []
  | a, b :: l => (mulO a.1 b.2).bind fun x => (mulO b.1 a.2).bind fun y => (areaL b l).bind fun r => fI (Int.sub x y) fun d => some (d :: r)
def sumI : List Int → Int
  | [] => 0
  | a :: l => Int.add a (sumI l)
def areaO (s : List Pt) : Option Fr := (oneBottomO s).bind fun b => (scaledO s b).bind fun ps => (areaL (ps.getLastD (0, 0)) ps).bind fun l => (mulO 2 b).bind fun c => (mulO c b).bind fun c => fI (sumI l) fun t => frO t c
def okShape (s : List Pt) : Bool := Nat.ble s.length 1000 && match isShapeO s with
  | some true => true
  | _ => false
def clippedByB (s : List Pt) (a b : Fr) (low high : Option Fr) : Option (List Pt) :=
  (match high with
    | none => some s
    | some h => keptO s a b h).bind fun s => match low with
    | none => some s
    | some l => match Nat.ble s.length 1000 with
      | true => keptO s (turnedF a) (turnedF b) (turnedF l)
      | false => none
def keptsB : List Hp → List Pt → Option (List Pt)
  | [], s => some s
  | h :: l, s => (keptO s h.a h.b h.high).bind fun s => match Nat.ble s.length 1000 with
    | true => keptsB l s
    | false => none
def bothB (one other : List Pt) : Option (List Pt) := match other with
  | [] => some []
  | _ => (halfPlanesO other).bind fun hs => keptsB hs one
end Mr
set_option maxHeartbeats 200000
/-! the mirrors, plainly -/
namespace Vy
theorem log2_mono {a b : Nat} (l : a ≤ b) : a.log2 ≤ b.log2 := by
  by_cases ha : a = 0
  · subst ha
    simp
  · exact (Nat.le_log2 (by omega)).mpr (Nat.le_trans (Nat.log2_self_le ha) l)
@[simp] theorem fN_eq {β : Type} (n : Nat) (k : Nat → β) : Mr.fN n k = k n := by cases n <;> rfl
@[simp] theorem fI_eq {β : Type} (i : Int) (k : Int → β) : Mr.fI i k = k i := by
  cases i <;> simp [Mr.fI]
theorem posI_eq (i : Int) : Mr.posI i = decide (0 < i) := by
  cases i with
  | ofNat n => simp only [Mr.posI]; rw [Bool.eq_iff_iff, Nat.blt_eq, decide_eq_true_eq]; exact Int.ofNat_lt.symm
  | negSucc n => simp [Mr.posI]
theorem negI_eq (i : Int) : Mr.negI i = decide (i < 0) := by
  cases i with
  | ofNat n => simp [Mr.negI]
  | negSucc n => simp [Mr.negI]
theorem ltI_eq (i j : Int) : Mr.ltI i j = decide (i < j) := by
  cases i <;> cases j <;> simp only [Mr.ltI] <;> rw [Bool.eq_iff_iff] <;> simp [Nat.blt_eq] <;> omega
theorem eqI_eq (i j : Int) : Mr.eqI i j = decide (i = j) := by
  cases i <;> cases j <;> simp only [Mr.eqI] <;> rw [Bool.eq_iff_iff] <;> simp [Nat.beq_eq] <;> omega
end Vy
set_option maxHeartbeats 200000
/-! equations of the evaluator: values with types, what is collected, turns of loops -/
namespace Vy
open PySem
def fr (x : Int × Int) : Va := .tup [.int x.1, .int x.2]
def pt (p : Mr.Pt) : Va := .tup [fr p.1, fr p.2]
def sh (l : List Mr.Pt) : Va := .tup (l.map pt)
@[simp] theorem fold_fr {a b : Int} : Va.tup [.int a, .int b] = fr (a, b) := rfl
@[simp] theorem fold_sh {l : List Mr.Pt} : Va.tup (l.map pt) = sh l := rfl
@[simp] theorem fold_pt {a b : Int × Int} : Va.tup [fr a, fr b] = pt (a, b) := rfl
section
variable {h : Hm} {i j : Int} {x y : Int × Int} {p : Mr.Pt}
theorem eqP_int (h : Hm) (i j : Int) : eqP h (.int i) (.int j) = some (decide (i = j)) := by
  show (if SeqAt.shaped (.int i) = true ∧ SeqAt.shaped (.int j) = true then some (PyData.eqv (.int i) (.int j)) else none) = _
  rw [if_pos ⟨rfl, rfl⟩]
  congr 1
@[simp] theorem q_eq : cmpP h .eq (.int i) (.int j) = some (decide (i = j)) := eqP_int h i j
@[simp] theorem q_ne : cmpP h .ne (.int i) (.int j) = some (!decide (i = j)) := by
  show (eqP h (.int i) (.int j)).map (!·) = _
  rw [eqP_int]
  rfl
@[simp] theorem q_lt : cmpP h .lt (.int i) (.int j) = some (decide (i < j)) := rfl
@[simp] theorem q_le : cmpP h .le (.int i) (.int j) = some (decide (i ≤ j)) := rfl
@[simp] theorem q_gt : cmpP h .gt (.int i) (.int j) = some (decide (j < i)) := rfl
@[simp] theorem q_ge : cmpP h .ge (.int i) (.int j) = some (decide (j ≤ i)) := rfl
@[simp] theorem q_is_non : cmpP h .is .non .non = some true := rfl
@[simp] theorem q_is_int : cmpP h .is (.int i) .non = some false := rfl
@[simp] theorem q_isnot_non : cmpP h .isnot .non .non = some false := rfl
@[simp] theorem q_isnot_int : cmpP h .isnot (.int i) .non = some true := rfl
@[simp] theorem q_is_tup {ws : List Va} : cmpP h .is (.tup ws) .non = some false := rfl
@[simp] theorem q_isnot_tup {ws : List Va} : cmpP h .isnot (.tup ws) .non = some true := rfl
@[simp] theorem q_is_fr : cmpP h .is (fr x) .non = some false := rfl
@[simp] theorem q_isnot_fr : cmpP h .isnot (fr x) .non = some true := rfl
@[simp] theorem b_add : binV .add (.int i) (.int j) h = .ok (.int (i + j)) h := rfl
@[simp] theorem b_sub : binV .sub (.int i) (.int j) h = .ok (.int (i - j)) h := rfl
theorem b_mul (m : mulOk i j) : binV .mul (.int i) (.int j) h = .ok (.int (i * j)) h := if_pos m
theorem b_fdiv (m : divOk i j) : binV .fdiv (.int i) (.int j) h = .ok (.int (i.fdiv j)) h := if_pos m
theorem b_mod (m : j ≠ 0) : binV .mod (.int i) (.int j) h = .ok (.int (i.fmod j)) h := if_pos m
@[simp] theorem t_bl {b : Bool} : truth h (.bl b) = some b := rfl
@[simp] theorem ofB_some {b : Bool} : ofB h (some b) = .ok (.bl b) h := rfl
@[simp] theorem ofO_some {w : Va} : ofO h (some w) = .ok w h := rfl
theorem truR_w {w : Va} : truR (.ok w h) = (match truth h w with | some b => .ok b h | none => .bad) := rfl
@[simp] theorem truR_bl {b : Bool} : truR (.ok (.bl b) h) = .ok b h := rfl
@[simp] theorem ix_0 {a : Va} {r : List Va} : idxV (.tup (a :: r)) (.int 0) h = .ok a h := by
  simp [idxV, atI, L2.ixN]
@[simp] theorem ix_1 {a b : Va} {r : List Va} : idxV (.tup (a :: b :: r)) (.int 1) h = .ok b h := by
  have : (1 : Int) < (r.length : Int) + 1 + 1 := by omega
  simp [idxV, atI, L2.ixN, this]
@[simp] theorem ix_fr0 : idxV (fr x) (.int 0) h = .ok (.int x.1) h := ix_0
@[simp] theorem ix_fr1 : idxV (fr x) (.int 1) h = .ok (.int x.2) h := ix_1
@[simp] theorem ix_pt0 : idxV (pt p) (.int 0) h = .ok (fr p.1) h := ix_0
@[simp] theorem ix_pt1 : idxV (pt p) (.int 1) h = .ok (fr p.2) h := ix_1
@[simp] theorem st_fr {t u : Tg} {σ : Sg} : setT (.tup [t, u]) (fr x) σ = setTs [t, u] [.int x.1, .int x.2] σ := rfl
@[simp] theorem st_pt {t u : Tg} {σ : Sg} : setT (.tup [t, u]) (pt p) σ = setTs [t, u] [fr p.1, fr p.2] σ := rfl
@[simp] theorem st_tup {ts : List Tg} {ws : List Va} {σ : Sg} : setT (.tup ts) (.tup ws) σ = setTs ts ws σ := rfl
@[simp] theorem st_nm {i : Nat} {w : Va} {σ : Sg} : setT (.nm i) w σ = some (σ.set i (some w)) := rfl
@[simp] theorem sts_nil {σ : Sg} : setTs [] [] σ = some σ := rfl
@[simp] theorem sts_cons {t : Tg} {ts : List Tg} {w : Va} {ws : List Va} {σ : Sg} : setTs (t :: ts) (w :: ws) σ = (match setT t w σ with | some σ1 => setTs ts ws σ1 | none => none) := rfl
end
/-! what is collected -/
mutual
theorem low_pure (n : Nat) : ∀ w : Va, w.pure = true → w.low n = true
  | .ref _, e => by cases e
  | .tup ws, e => by
    show Va.lows n ws = true
    exact lows_pure n ws e
  | .non, _ => rfl
  | .bl _, _ => rfl
  | .int _, _ => rfl
  | .str _, _ => rfl
  | .ty _, _ => rfl
  | .glb _, _ => rfl
theorem lows_pure (n : Nat) : ∀ ws : List Va, Va.pures ws = true → Va.lows n ws = true
  | [], _ => rfl
  | w :: ws, e => by
    obtain ⟨a, b⟩ := Bool.and_eq_true_iff.mp e
    show (w.low n && Va.lows n ws) = true
    rw [low_pure n w a, lows_pure n ws b]
    rfl
end
theorem pures_map {α : Type} {f : α → Va} (hf : ∀ a, (f a).pure = true) : ∀ l : List α, Va.pures (l.map f) = true
  | [] => rfl
  | a :: l => by
    show ((f a).pure && Va.pures (l.map f)) = true
    rw [hf a, pures_map hf l]
    rfl
@[simp] theorem pure_fr {x : Int × Int} : (fr x).pure = true := rfl
@[simp] theorem pure_pt {p : Mr.Pt} : (pt p).pure = true := rfl
@[simp] theorem pure_sh {l : List Mr.Pt} : (sh l).pure = true := pures_map (fun _ => rfl) l
@[simp] theorem pure_int {i : Int} : (Va.int i).pure = true := rfl
@[simp] theorem pure_bl {i : Bool} : (Va.bl i).pure = true := rfl
@[simp] theorem pure_non : Va.non.pure = true := rfl
@[simp] theorem pure_str {x : Str} : (Va.str x).pure = true := rfl
@[simp] theorem pure_tup {ws : List Va} : (Va.tup ws).pure = Va.pures ws := rfl
@[simp] theorem pures_nil : Va.pures [] = true := rfl
@[simp] theorem pures_cons {w : Va} {ws : List Va} : Va.pures (w :: ws) = (w.pure && Va.pures ws) := rfl
/-- a call that leaves new places behind, of a value without places -/
theorem gcR_tail {h t : Hm} {w : Va} (p : w.pure = true) : gcR h (.ok w (h ++ t)) = .ok w h := by
  show gc h w (h ++ t) = _
  have hk : h.length ≤ (h ++ t).length ∧ keptB h (h ++ t) := ⟨by simp, fun i hi => .inl (List.getElem?_append_left hi)⟩
  unfold gc
  rw [if_pos hk]
  cases w with
  | ref k => cases p
  | _ => simp [low_pure _ _ p]
theorem gcR_same {h : Hm} {w : Va} (p : w.pure = true) : gcR h (.ok w h) = .ok w h := by
  have := gcR_tail (h := h) (t := []) p
  rwa [List.append_nil] at this
/-- .. of a new list -/
theorem gcR_new {h t : Hm} {k : Nat} {ws : List Va} (e : (h ++ t)[k]? = some (.lst ws)) (hk : h.length ≤ k) (p : Va.pures ws = true) : gcR h (.ok (.ref k) (h ++ t)) = .ok (.ref h.length) (h ++ [.lst ws]) := by
  show gc h (.ref k) (h ++ t) = _
  have hk2 : h.length ≤ (h ++ t).length ∧ keptB h (h ++ t) := ⟨by simp, fun i hi => .inl (List.getElem?_append_left hi)⟩
  unfold gc
  rw [if_pos hk2]
  dsimp only
  rw [if_neg (by omega), e]
  dsimp only
  rw [if_pos (by show Va.lows _ ws = true; exact lows_pure _ _ p)]
  simp
/-- .. where one list was written -/
theorem gcR_set {h t : Hm} {w : Va} {n : Nat} {ws : List Va} (p : w.pure = true) (q : Va.pures ws = true) : gcR h (.ok w (h.set n (.lst ws) ++ t)) = .ok w (h.set n (.lst ws)) := by
  show gc h w (h.set n (.lst ws) ++ t) = _
  have hk : h.length ≤ (h.set n (.lst ws) ++ t).length ∧ keptB h (h.set n (.lst ws) ++ t) := ⟨by simp, fun i hi => by
    rw [List.getElem?_append_left (by simpa using hi)]
    by_cases e : n = i
    · subst e
      right
      exact ⟨.lst ws, by simp [hi], lows_pure _ _ q⟩
    · left
      rw [List.getElem?_set_ne e]⟩
  have ht : (h.set n (.lst ws) ++ t).take h.length = h.set n (.lst ws) := by
    have : h.length = (h.set n (.lst ws)).length := by simp
    rw [this, List.take_left]
  unfold gc
  rw [if_pos hk]
  cases w with
  | ref k => cases p
  | _ => simp [low_pure _ _ p, ht]
section
variable {h t : Hm}
@[simp] theorem gc1_fr {x : Int × Int} : gcR h (.ok (fr x) h) = .ok (fr x) h := gcR_same rfl
@[simp] theorem gc1_pt {x : Mr.Pt} : gcR h (.ok (pt x) h) = .ok (pt x) h := gcR_same rfl
@[simp] theorem gc1_sh {x : List Mr.Pt} : gcR h (.ok (sh x) h) = .ok (sh x) h := gcR_same pure_sh
@[simp] theorem gc1_int {x : Int} : gcR h (.ok (.int x) h) = .ok (.int x) h := gcR_same rfl
@[simp] theorem gc1_bl {x : Bool} : gcR h (.ok (.bl x) h) = .ok (.bl x) h := gcR_same rfl
@[simp] theorem gc1_str {x : Str} : gcR h (.ok (.str x) h) = .ok (.str x) h := gcR_same rfl
@[simp] theorem gc1_non : gcR h (.ok .non h) = .ok .non h := gcR_same rfl
@[simp] theorem gc2_fr {x : Int × Int} : gcR h (.ok (fr x) (h ++ t)) = .ok (fr x) h := gcR_tail rfl
@[simp] theorem gc2_pt {x : Mr.Pt} : gcR h (.ok (pt x) (h ++ t)) = .ok (pt x) h := gcR_tail rfl
@[simp] theorem gc2_sh {x : List Mr.Pt} : gcR h (.ok (sh x) (h ++ t)) = .ok (sh x) h := gcR_tail pure_sh
@[simp] theorem gc2_int {x : Int} : gcR h (.ok (.int x) (h ++ t)) = .ok (.int x) h := gcR_tail rfl
@[simp] theorem gc2_bl {x : Bool} : gcR h (.ok (.bl x) (h ++ t)) = .ok (.bl x) h := gcR_tail rfl
@[simp] theorem gc2_str {x : Str} : gcR h (.ok (.str x) (h ++ t)) = .ok (.str x) h := gcR_tail rfl
@[simp] theorem gc2_non : gcR h (.ok .non (h ++ t)) = .ok .non h := gcR_tail rfl
/-- the list at the end of the heap -/
@[simp] theorem at_end {c : Ce} : (h ++ [c])[h.length]? = some c := by simp
@[simp] theorem seqAt_end {ws : List Va} : seqAt (h ++ [.lst ws]) h.length = some ws := by simp [seqAt]
end
/-! statements in sequence -/
section
variable {defs : Str → Option Df} {gv : Str → Option Va}
theorem callN_eq {l : Nat} {f : Str} {d : Df} {ws : List Va} {h : Hm} (hd : defs f = some d) (hl : ws.length = d.pars) :
    callN defs gv (l + 1) f ws h = handed (eSs ⟨callN defs gv l, gv⟩ d.body (ws.map some ++ List.replicate (d.slots - d.pars) none) h) := by
  show (match defs f with | some d => if ws.length = d.pars then handed (eSs ⟨callN defs gv l, gv⟩ d.body (ws.map some ++ List.replicate (d.slots - d.pars) none) h) else .bad | none => .bad) = _
  rw [hd]
  dsimp only
  rw [if_pos hl]
theorem seq_nx {Γ : Ev} {s : Sm} {r : Ss} {σ σ1 : Sg} {h h1 : Hm} (e : eS Γ s σ h = .ok (.nx σ1) h1) : eSs Γ (.cons s r) σ h = eSs Γ r σ1 h1 := by
  conv => lhs; unfold eSs
  rw [e, bind_ok]
theorem seq_rt {Γ : Ev} {s : Sm} {r : Ss} {σ : Sg} {w : Va} {h h1 : Hm} (e : eS Γ s σ h = .ok (.rt w) h1) : eSs Γ (.cons s r) σ h = .ok (.rt w) h1 := by
  conv => lhs; unfold eSs
  rw [e, bind_ok]
@[simp] theorem handed_rt {w : Va} {h : Hm} : handed (.ok (.rt w) h) = .ok w h := rfl
@[simp] theorem handed_nx {σ : Sg} {h : Hm} : handed (.ok (.nx σ) h) = .ok .non h := rfl
/-! the evaluator's equations, for simp (all but comprehensions and loops) -/
section
variable {Γ : Ev} {σ : Sg} {h : Hm}
@[simp] theorem getS_eq (i : Nat) : getS σ i = (σ[i]?).join := rfl
@[simp] theorem ex_var {i : Nat} : eX Γ (.var i) σ h = ofO h (getS σ i) := by rw [eX] <;> rfl
@[simp] theorem ex_cst {w : Va} : eX Γ (.cst w) σ h = .ok w h := by rw [eX] <;> rfl
@[simp] theorem ex_glob {k : Nat} {x : Str} : eX Γ (.glob k x) σ h = ofO h (Γ.gv x) := by rw [eX] <;> rfl
@[simp] theorem ex_bin {o : Op} {a b : Xp} : eX Γ (.bin o a b) σ h = (eX Γ a σ h).bind fun x h1 => (eX Γ b σ h1).bind fun y h2 => binV o x y h2 := by rw [eX] <;> rfl
@[simp] theorem ex_neg {a : Xp} : eX Γ (.neg a) σ h = (eX Γ a σ h).bind fun x h1 => match x with
    | .int i => .ok (.int (-i)) h1
    | _ => .bad := by rw [eX] <;> rfl
@[simp] theorem ex_not {a : Xp} : eX Γ (.not a) σ h = (truR (eX Γ a σ h)).bind fun b h1 => .ok (.bl (!b)) h1 := by rw [eX] <;> rfl
@[simp] theorem ex_and {a b : Xp} : eX Γ (.and a b) σ h = (eX Γ a σ h).bind fun x h1 => match truth h1 x with
    | some true => eX Γ b σ h1
    | some false => .ok x h1
    | none => .bad := by rw [eX] <;> rfl
@[simp] theorem ex_or {a b : Xp} : eX Γ (.or a b) σ h = (eX Γ a σ h).bind fun x h1 => match truth h1 x with
    | some true => .ok x h1
    | some false => eX Γ b σ h1
    | none => .bad := by rw [eX] <;> rfl
@[simp] theorem ex_cmp {o : Cp} {a b : Xp} : eX Γ (.cmp o a b) σ h = (eX Γ a σ h).bind fun x h1 => (eX Γ b σ h1).bind fun y h2 => ofB h2 (cmpP h2 o x y) := by rw [eX] <;> rfl
@[simp] theorem ex_cmp2 {o p : Cp} {a b c : Xp} : eX Γ (.cmp2 o p a b c) σ h = (eX Γ a σ h).bind fun x h1 => (eX Γ b σ h1).bind fun y h2 => match cmpP h2 o x y with
    | some true => (eX Γ c σ h2).bind fun z h3 => ofB h3 (cmpP h3 p y z)
    | some false => .ok (.bl false) h2
    | none => .bad := by rw [eX] <;> rfl
@[simp] theorem ex_ife {c a b : Xp} : eX Γ (.ife c a b) σ h = (truR (eX Γ c σ h)).bind fun t h1 => if t = true then eX Γ a σ h1 else eX Γ b σ h1 := by rw [eX] <;> rfl
@[simp] theorem ex_tup {es : Xs} : eX Γ (.tup es) σ h = (eXs Γ es σ h).bind fun ws h1 => if ws.length ≤ sizeLine then .ok (.tup ws) h1 else .bad := by rw [eX] <;> rfl
@[simp] theorem ex_lst {es : Xs} : eX Γ (.lst es) σ h = (eXs Γ es σ h).bind fun ws h1 => newL h1 ws := by rw [eX] <;> rfl
@[simp] theorem ex_idx {a b : Xp} : eX Γ (.idx a b) σ h = (eX Γ a σ h).bind fun x h1 => (eX Γ b σ h1).bind fun y h2 => idxV x y h2 := by rw [eX] <;> rfl
@[simp] theorem ex_slc {a : Xp} {lo hi : Xo} : eX Γ (.slc a lo hi) σ h = (eX Γ a σ h).bind fun x h1 => (eXo Γ lo σ h1).bind fun l h2 => (eXo Γ hi σ h2).bind fun u h3 => slcV l u x h3 := by rw [eX] <;> rfl
@[simp] theorem ex_slcs {a st : Xp} {lo hi : Xo} : eX Γ (.slcs a lo hi st) σ h = (eX Γ a σ h).bind fun x h1 => (eXo Γ lo σ h1).bind fun l h2 => (eXo Γ hi σ h2).bind fun u h3 => (eX Γ st σ h3).bind fun k h4 => match k with
    | .int i => stepV l u i x h4
    | _ => .bad := by rw [eX] <;> rfl
@[simp] theorem ex_call {k : Nat} {f : Str} {es : Xs} : eX Γ (.call k f es) σ h = (eXs Γ es σ h).bind fun ws h1 => gcR h1 (Γ.call f ws h1) := by rw [eX] <;> rfl
@[simp] theorem ex_callk {k : Nat} {f : Str} {ks : List Str} {es fs : Xs} : eX Γ (.callk k f ks es fs) σ h = (eXs Γ es σ h).bind fun ws h1 => (eXs Γ fs σ h1).bind fun us h2 => gcR h2 (Γ.call f (ws ++ us) h2) := by rw [eX] <;> rfl
@[simp] theorem ex_bi {f : Bi} {es : Xs} : eX Γ (.bi f es) σ h = (eXs Γ es σ h).bind fun ws h1 => biV f ws h1 := by rw [eX] <;> rfl
@[simp] theorem ex_me {m : Me} {o : Xp} {es : Xs} : eX Γ (.me m o es) σ h = (eX Γ o σ h).bind fun x h1 => if recOk m x h1 = true then (eXs Γ es σ h1).bind fun ws h2 => meV m x ws h2 else .bad := by rw [eX] <;> rfl
@[simp] theorem ex_gc {e : Xp} : eX Γ (.gc e) σ h = gcR h (eX Γ e σ h) := by rw [eX] <;> rfl
@[simp] theorem exs_nil : eXs Γ .nil σ h = .ok [] h := by rw [eXs] <;> rfl
@[simp] theorem exs_cons {e : Xp} {r : Xs} : eXs Γ (.cons e r) σ h = (eX Γ e σ h).bind fun x h1 => (eXs Γ r σ h1).bind fun xs h2 => .ok (x :: xs) h2 := by rw [eXs] <;> rfl
@[simp] theorem exs_star {e : Xp} {r : Xs} : eXs Γ (.star e r) σ h = (eX Γ e σ h).bind fun x h1 => match itemsV h1 x with
    | some ws => (eXs Γ r σ h1).bind fun xs h2 => .ok (ws ++ xs) h2
    | none => .bad := by rw [eXs] <;> rfl
@[simp] theorem exo_none : eXo Γ .none σ h = .ok none h := by rw [eXo] <;> rfl
@[simp] theorem exo_some {e : Xp} : eXo Γ (.some e) σ h = (eX Γ e σ h).bind fun x h1 => match x with
    | .int i => .ok (some i) h1
    | _ => .bad := by rw [eXo] <;> rfl
@[simp] theorem eif_none : eIf Γ .none σ h = .ok true h := by rw [eIf] <;> rfl
@[simp] theorem eif_some {e : Xp} : eIf Γ (.some e) σ h = truR (eX Γ e σ h) := by rw [eIf] <;> rfl
@[simp] theorem eit_seq {e : Xp} : eIt Γ (.seq e) σ h = (eX Γ e σ h).bind fun x h1 => match srcV h1 x with
      | some s => .ok s h1
      | none => .bad := by rw [eIt] <;> rfl
@[simp] theorem eit_of {f : Wk} {es : Xs} : eIt Γ (.of f es) σ h = (eXs Γ es σ h).bind fun ws h1 => (match iterV f ws h1 with
      | some s => .ok s h1
      | none => .bad) := by rw [eIt] <;> rfl
@[simp] theorem es_ret {e : Xp} : eS Γ (.ret e) σ h = (eX Γ e σ h).bind fun x h1 => .ok (.rt x) h1 := by rw [eS] <;> rfl
@[simp] theorem es_retN : eS Γ .retN σ h = .ok (.rt .non) h := by rw [eS] <;> rfl
@[simp] theorem es_set {t : Tg} {e : Xp} : eS Γ (.set t e) σ h = (eX Γ e σ h).bind fun x h1 => match setT t x σ with
    | some σ1 => .ok (.nx σ1) h1
    | none => .bad := by rw [eS] <;> rfl
@[simp] theorem es_expr {e : Xp} : eS Γ (.expr e) σ h = (eX Γ e σ h).bind fun _ h1 => .ok (.nx σ) h1 := by rw [eS] <;> rfl
@[simp] theorem es_ife {c : Xp} {a b : Ss} : eS Γ (.ife c a b) σ h = (truR (eX Γ c σ h)).bind fun t h1 => if t = true then eSs Γ a σ h1 else eSs Γ b σ h1 := by rw [eS] <;> rfl
@[simp] theorem es_pass : eS Γ .pass σ h = .ok (.nx σ) h := by rw [eS] <;> rfl
@[simp] theorem es_cont : eS Γ .cont σ h = .ok (.ct σ) h := by rw [eS] <;> rfl
@[simp] theorem es_brk : eS Γ .brk σ h = .ok (.bk σ) h := by rw [eS] <;> rfl
@[simp] theorem ess_nil : eSs Γ .nil σ h = .ok (.nx σ) h := by rw [eSs] <;> rfl
@[simp] theorem ess_cons {s : Sm} {r : Ss} : eSs Γ (.cons s r) σ h = (eS Γ s σ h).bind fun f h1 => match f with
    | .nx σ1 => eSs Γ r σ1 h1
    | f => .ok f h1 := by rw [eSs] <;> rfl
theorem es_whl {c : Xp} {b : Ss} {σ' : Sg} {h' : Hm} (e : ∃ n, whileF (fun σ1 h1 => truR (eX Γ c σ1 h1)) (fun σ1 h1 => eSs Γ b σ1 h1) n σ h = some (.ok (.nx σ') h')) : eS Γ (.whl c b) σ h = .ok (.nx σ') h' := by
  obtain ⟨n, e⟩ := e
  rw [eS]
  exact whileR_of e
theorem es_for {t : Tg} {it : It'} {b : Ss} {ws : List Va} {g : List (Nat × Ce)} {h1 : Hm} (src : eIt Γ it σ h = .ok ⟨ws, g⟩ h1) : eS Γ (.for t it b) σ h = forL g t (fun σ1 h2 => eSs Γ b σ1 h2) ws σ h1 := by
  rw [eS, src, bind_ok]
theorem ex_sdp {own : List Nat} {key : Xp} {t : Tg} {it : It'} {ws : List Va} {g : List (Nat × Ce)} (src : eIt Γ it σ h = .ok ⟨ws, g⟩ h) : eX Γ (.sdp own key t it) σ h = (sdL g t (fun σ1 h2 => eX Γ key σ1 h2) (wipeS σ own) ws [] h).bind fun acc h2 => newL h2 ((sortP acc).map pairVa) := by
  rw [eX, src, bind_ok]
end
/-! turns -/
@[simp] theorem heldOk_nil {h : Hm} : heldOk [] h := fun p hp => absurd hp (by simp)
theorem heldOk_app {g : List (Nat × Ce)} {h t : Hm} (a : heldOk g h) : heldOk g (h ++ t) := fun p hp => by
  have e := a p hp
  rw [List.getElem?_append_left (List.getElem?_eq_some_iff.mp e).1]
  exact e
/-- a comprehension without a test, whose elements leave the heap as it was -/
theorem compL_map {α : Type} {n : Nat} {g : List (Nat × Ce)} {t : Tg} {test : Sg → Hm → Res Bool} {elt : Sg → Hm → Res Va} {σ : Sg} {enc f : α → Va} {h : Hm} (hn : h.length = n) (held : heldOk g h) :
    ∀ (xs : List α) (acc : List Va), acc.length + xs.length ≤ sizeLine →
    (∀ x ∈ xs, ∃ σ1, setT t (enc x) σ = some σ1 ∧ ∀ u, test σ1 (h ++ u) = .ok true (h ++ u) ∧ elt σ1 (h ++ u) = .ok (f x) (h ++ u)) →
    compL n g t test elt σ (xs.map enc) (h ++ [.lst acc]) = .ok () (h ++ [.lst (acc ++ xs.map f)])
  | [], acc, _, _ => by
    simp [compL, heldOk_app held]
  | x :: xs, acc, hl, st => by
    obtain ⟨σ1, e1, e2⟩ := st x List.mem_cons_self
    obtain ⟨e3, e4⟩ := e2 [.lst acc]
    have hl' : acc.length < sizeLine := by simp at hl; omega
    have ih := compL_map hn held xs (acc ++ [f x]) (by simp at hl ⊢; omega) (fun y hy => st y (List.mem_cons_of_mem _ hy))
    have hg : (h ++ [Ce.lst acc])[n]? = some (.lst acc) := by subst hn; simp
    have hs : (h ++ [Ce.lst acc]).set n (.lst (acc ++ [f x])) = h ++ [.lst (acc ++ [f x])] := by subst hn; simp
    rw [List.map_cons]
    unfold compL
    rw [if_pos (heldOk_app held), e1]
    dsimp only
    rw [e3, bind_ok, if_pos rfl, e4, bind_ok, hg]
    dsimp only
    rw [if_pos hl', hs, ih]
    simp
/-- .. with a test -/
theorem compL_filter {α : Type} {n : Nat} {g : List (Nat × Ce)} {t : Tg} {test : Sg → Hm → Res Bool} {elt : Sg → Hm → Res Va} {σ : Sg} {enc f : α → Va} {q : α → Bool} {h : Hm} (hn : h.length = n) (held : heldOk g h) :
    ∀ (xs : List α) (acc : List Va), acc.length + xs.length ≤ sizeLine →
    (∀ x ∈ xs, ∃ σ1, setT t (enc x) σ = some σ1 ∧ ∀ u, test σ1 (h ++ u) = .ok (q x) (h ++ u) ∧ (q x = true → elt σ1 (h ++ u) = .ok (f x) (h ++ u))) →
    compL n g t test elt σ (xs.map enc) (h ++ [.lst acc]) = .ok () (h ++ [.lst (acc ++ (xs.filter q).map f)])
  | [], acc, _, _ => by
    simp [compL, heldOk_app held]
  | x :: xs, acc, hl, st => by
    obtain ⟨σ1, e1, e2⟩ := st x List.mem_cons_self
    obtain ⟨e3, e4⟩ := e2 [.lst acc]
    have hl' : acc.length < sizeLine := by simp at hl; omega
    have hg : (h ++ [Ce.lst acc])[n]? = some (.lst acc) := by subst hn; simp
    rw [List.map_cons]
    unfold compL
    rw [if_pos (heldOk_app held), e1]
    dsimp only
    rw [e3, bind_ok]
    cases hq : q x with
    | true =>
      have ih := compL_filter hn held xs (acc ++ [f x]) (by simp at hl ⊢; omega) (fun y hy => st y (List.mem_cons_of_mem _ hy))
      have hs : (h ++ [Ce.lst acc]).set n (.lst (acc ++ [f x])) = h ++ [.lst (acc ++ [f x])] := by subst hn; simp
      rw [if_pos rfl, e4 hq, bind_ok, hg]
      dsimp only
      rw [if_pos hl', hs, ih, List.filter_cons_of_pos (by simp [hq])]
      simp
    | false =>
      have ih := compL_filter hn held xs acc (by simp at hl ⊢; omega) (fun y hy => st y (List.mem_cons_of_mem _ hy))
      rw [if_neg Bool.false_ne_true, ih, List.filter_cons_of_neg (by simp [hq])]
end
/-- a comprehension without a test -/
theorem eX_lc {α : Type} {Γ : Ev} {own : List Nat} {elt : Xp} {t : Tg} {it : It'} {σ : Sg} {h : Hm} {xs : List α} {enc f : α → Va} {g : List (Nat × Ce)} {h0 : Hm} (src : eIt Γ it σ h0 = .ok ⟨xs.map enc, g⟩ h) (held : heldOk g h) (len : xs.length ≤ sizeLine)
    (st : ∀ x ∈ xs, ∃ σ1, setT t (enc x) (wipeS σ own) = some σ1 ∧ ∀ u, eX Γ elt σ1 (h ++ u) = .ok (f x) (h ++ u)) :
    eX Γ (.lc own elt t it .none) σ h0 = .ok (.ref h.length) (h ++ [.lst (xs.map f)]) := by
  unfold eX
  rw [src, bind_ok]
  dsimp only
  rw [compL_map (f := f) rfl held xs [] (by simpa using len) (fun x hx => by
    obtain ⟨σ1, e1, e2⟩ := st x hx
    exact ⟨σ1, e1, fun u => ⟨by simp [eIf], e2 u⟩⟩)]
  simp
theorem eX_lcf {α : Type} {Γ : Ev} {own : List Nat} {elt c : Xp} {t : Tg} {it : It'} {σ : Sg} {h : Hm} {xs : List α} {enc f : α → Va} {q : α → Bool} {g : List (Nat × Ce)} {h0 : Hm} (src : eIt Γ it σ h0 = .ok ⟨xs.map enc, g⟩ h) (held : heldOk g h) (len : xs.length ≤ sizeLine)
    (st : ∀ x ∈ xs, ∃ σ1, setT t (enc x) (wipeS σ own) = some σ1 ∧ ∀ u, truR (eX Γ c σ1 (h ++ u)) = .ok (q x) (h ++ u) ∧ (q x = true → eX Γ elt σ1 (h ++ u) = .ok (f x) (h ++ u))) :
    eX Γ (.lc own elt t it (.some c)) σ h0 = .ok (.ref h.length) (h ++ [.lst ((xs.filter q).map f)]) := by
  unfold eX
  rw [src, bind_ok]
  dsimp only
  rw [compL_filter (f := f) (q := q) rfl held xs [] (by simpa using len) (fun x hx => by
    obtain ⟨σ1, e1, e2⟩ := st x hx
    exact ⟨σ1, e1, fun u => by simpa [eIf] using e2 u⟩)]
  simp
theorem boolsV_map {α : Type} (q : α → Bool) : ∀ l : List α, boolsV (l.map fun x => .bl (q x)) = some (l.map q)
  | [] => rfl
  | a :: l => by
    show (boolsV (l.map fun x => .bl (q x))).map (q a :: ·) = _
    rw [boolsV_map q l]
    rfl
theorem intsV_map {α : Type} (q : α → Int) : ∀ l : List α, intsV (l.map fun x => .int (q x)) = some (l.map q)
  | [] => rfl
  | a :: l => by
    show (intsV (l.map fun x => .int (q x))).map (q a :: ·) = _
    rw [intsV_map q l]
    rfl
theorem strsV_map {α : Type} (q : α → Str) : ∀ l : List α, strsV (l.map fun x => .str (q x)) = some (l.map q)
  | [] => rfl
  | a :: l => by
    show (strsV (l.map fun x => .str (q x))).map (q a :: ·) = _
    rw [strsV_map q l]
    rfl
theorem all_end {α : Type} (xs : List α) (q : α → Bool) {h : Hm} : biV .all [.ref h.length] (h ++ [.lst (xs.map fun x => .bl (q x))]) = .ok (.bl (xs.all q)) (h ++ [.lst (xs.map fun x => .bl (q x))]) := by
  show ofO _ (((seqAt _ _).bind boolsV).map fun l => .bl (l.all id)) = _
  rw [seqAt_end, Option.bind_some, boolsV_map]
  simp [List.all_map, Function.comp_def]
theorem any_end {α : Type} (xs : List α) (q : α → Bool) {h : Hm} : biV .any [.ref h.length] (h ++ [.lst (xs.map fun x => .bl (q x))]) = .ok (.bl (xs.any q)) (h ++ [.lst (xs.map fun x => .bl (q x))]) := by
  show ofO _ (((seqAt _ _).bind boolsV).map fun l => .bl (l.any id)) = _
  rw [seqAt_end, Option.bind_some, boolsV_map]
  simp [List.any_map, Function.comp_def]
@[simp] theorem tup_end {ws : List Va} {h : Hm} : biV .tuple [.ref h.length] (h ++ [.lst ws]) = .ok (.tup ws) (h ++ [.lst ws]) := by
  show ofO _ ((itemsV _ (.ref h.length)).map .tup) = _
  show ofO _ ((seqAt _ h.length).map .tup) = _
  rw [seqAt_end]
  rfl
@[simp] theorem src_tup {h : Hm} {ws : List Va} : srcV h (.tup ws) = some ⟨ws, []⟩ := rfl
@[simp] theorem src_fr {h : Hm} {x : Int × Int} : srcV h (fr x) = some ⟨[.int x.1, .int x.2], []⟩ := rfl
@[simp] theorem src_pt {h : Hm} {x : Mr.Pt} : srcV h (pt x) = some ⟨[fr x.1, fr x.2], []⟩ := rfl
@[simp] theorem src_sh {h : Hm} {x : List Mr.Pt} : srcV h (sh x) = some ⟨x.map pt, []⟩ := rfl
theorem src_ref {h : Hm} {n : Nat} {ws : List Va} (e : h[n]? = some (.lst ws)) : srcV h (.ref n) = some ⟨ws, [(n, .lst ws)]⟩ := by simp [srcV, e]
/-- what a walk over a value gives -/
def Wl (h : Hm) (a : Va) (ws : List Va) : Prop := ∃ g, srcV h a = some ⟨ws, g⟩ ∧ heldOk g h
theorem Wl.tup {h : Hm} {ws : List Va} : Wl h (.tup ws) ws := ⟨[], rfl, heldOk_nil⟩
theorem Wl.sh {h : Hm} {l : List Mr.Pt} : Wl h (sh l) (l.map pt) := ⟨[], rfl, heldOk_nil⟩
theorem Wl.ref {h : Hm} {n : Nat} {ws : List Va} (e : h[n]? = some (.lst ws)) : Wl h (.ref n) ws := ⟨_, src_ref e, fun p hp => by
  simp at hp
  subst hp
  exact e⟩
theorem Wl.last {h : Hm} {ws : List Va} : Wl (h ++ [.lst ws]) (.ref h.length) ws := .ref at_end
theorem Wl.lc {α : Type} {Γ : Ev} {own : List Nat} {elt e : Xp} {t : Tg} {σ : Sg} {h : Hm} {xs : List α} {enc f : α → Va} {a : Va} (w : Wl h a (xs.map enc)) (ea : eX Γ e σ h = .ok a h) (len : xs.length ≤ sizeLine)
    (st : ∀ x ∈ xs, ∃ σ1, setT t (enc x) (wipeS σ own) = some σ1 ∧ ∀ u, eX Γ elt σ1 (h ++ u) = .ok (f x) (h ++ u)) :
    eX Γ (.lc own elt t (.seq e) .none) σ h = .ok (.ref h.length) (h ++ [.lst (xs.map f)]) := by
  obtain ⟨g, e1, e2⟩ := w
  exact eX_lc (g := g) (by simp [ea, e1]) e2 len st
theorem Wl.for_ {Γ : Ev} {t : Tg} {e : Xp} {b : Ss} {ws : List Va} {a : Va} {σ : Sg} {h : Hm} (w : Wl h a ws) (ea : eX Γ e σ h = .ok a h) : ∃ g, heldOk g h ∧ eS Γ (.for t (.seq e) b) σ h = forL g t (fun σ1 h2 => eSs Γ b σ1 h2) ws σ h := by
  obtain ⟨g, e1, e2⟩ := w
  exact ⟨g, e2, es_for (by simp [ea, e1])⟩
/-! items by their place -/
theorem atI_nat {α : Type} {l : List α} {k : Nat} {a : α} (e : l[k]? = some a) : atI l (k : Int) = some a := by
  obtain ⟨h1, h2⟩ := List.getElem?_eq_some_iff.mp e
  simp [atI, L2.ixN, h1, h2]
theorem atI_neg1 {α : Type} {l : List α} {a : α} : atI (l ++ [a]) (-1) = some a := by
  have : -((l.length : Int) + 1) ≤ -1 := by omega
  have h2 : ((-1 : Int) + ((l.length : Int) + 1)).toNat = l.length := by omega
  simp [atI, L2.ixN, this, h2]
theorem atI_neg2 {α : Type} {l : List α} {a b : α} : atI (l ++ [a, b]) (-2) = some a := by
  have : -((l.length : Int) + 2) ≤ -2 := by omega
  have h2 : ((-2 : Int) + ((l.length : Int) + 2)).toNat = l.length := by omega
  simp [atI, L2.ixN, this, h2]
theorem atI_last {α : Type} {l : List α} {a : α} (e : l.getLast? = some a) : atI l (-1) = some a := by
  obtain ⟨r, rfl⟩ : ∃ r, l = r ++ [a] := List.getLast?_eq_some_iff.mp e
  exact atI_neg1
theorem ix_tup {h : Hm} {ws : List Va} {i : Int} {w : Va} (e : atI ws i = some w) : idxV (.tup ws) (.int i) h = .ok w h := by simp [idxV, e]
theorem ix_ref {h : Hm} {n : Nat} {ws : List Va} {i : Int} {w : Va} (e1 : seqAt h n = some ws) (e : atI ws i = some w) : idxV (.ref n) (.int i) h = .ok w h := by simp [idxV, e1, e]
theorem atI_map {α β : Type} {f : α → β} {l : List α} {i : Int} {a : α} (e : atI l i = some a) : atI (l.map f) i = some (f a) := by
  unfold atI at e ⊢
  obtain ⟨j, e1, e2⟩ := Option.bind_eq_some_iff.mp e
  rw [List.length_map, e1]
  simp [e2]
theorem ix_sh {h : Hm} {s : List Mr.Pt} {i : Int} {p : Mr.Pt} (e : atI s i = some p) : idxV (sh s) (.int i) h = .ok (pt p) h := ix_tup (atI_map e)
theorem enumL_map {α : Type} {f : α → Va} : ∀ (l : List α) (k : Nat), enumL k (l.map f) = (l.zipIdx k).map fun p => .tup [.int (p.2 : Int), f p.1]
  | [], _ => rfl
  | a :: l, k => by
    show (.tup [.int (k : Int), f a]) :: enumL (k + 1) (l.map f) = _
    rw [enumL_map l (k + 1)]
    rfl
@[simp] theorem srcK_sh {h : Hm} {x : List Mr.Pt} : srcK h (sh x) = some ⟨x.map pt, []⟩ := rfl
@[simp] theorem srcK_pt {h : Hm} {x : Mr.Pt} : srcK h (pt x) = some ⟨[fr x.1, fr x.2], []⟩ := rfl
@[simp] theorem srcK_tup {h : Hm} {ws : List Va} : srcK h (.tup ws) = some ⟨ws, []⟩ := rfl
@[simp] theorem iter_enum {h : Hm} {a : Va} : iterV .enum [a] h = (srcK h a).map fun s => ⟨enumL 0 s.items, s.held⟩ := rfl
@[simp] theorem iter_zip2 {h : Hm} {a b : Va} : iterV .zip2 [a, b] h = (match srcK h a, srcK h b with
    | some s, some t => some ⟨zipL s.items t.items, s.held ++ t.held⟩
    | _, _ => none) := rfl
@[simp] theorem cut_all {α : Type} (xs : List α) : cutL xs none none = xs := by simp [cutL, HT.sIx]
theorem cut_drop1 {α : Type} (xs : List α) : cutL xs none (some (-1)) = xs.dropLast := by
  have : ((-1 : Int) + (xs.length : Int)).toNat = xs.length - 1 := by omega
  simp [cutL, HT.sIx, this, List.dropLast_eq_take]
theorem cut_from1 {α : Type} (xs : List α) : cutL xs (some 1) none = xs.drop 1 := by
  simp only [cutL, HT.sIx]
  rw [if_neg (by omega)]
  cases xs with
  | nil => simp
  | cons a l => simp
@[simp] theorem newL_eq {h : Hm} {ws : List Va} (e : ws.length ≤ sizeLine) : newL h ws = .ok (.ref h.length) (h ++ [.lst ws]) := if_pos e
theorem len_ref {h : Hm} {n : Nat} {ws : List Va} (e : seqAt h n = some ws) : biV .len [.ref n] h = .ok (.int ws.length) h := by simp [biV, lenV, e]
theorem srcV_app {h t : Hm} {a : Va} {s : Src} (e : srcV h a = some s) : srcV (h ++ t) a = some s := by
  cases a with
  | ref n =>
    simp only [srcV] at e ⊢
    cases hn : h[n]? with
    | none => rw [hn] at e; cases e
    | some c =>
      rw [List.getElem?_append_left (List.getElem?_eq_some_iff.mp hn).1, hn]
      rw [hn] at e
      exact e
  | _ => exact e
theorem Wl.app {h t : Hm} {a : Va} {ws : List Va} (w : Wl h a ws) : Wl (h ++ t) a ws := by
  obtain ⟨g, e1, e2⟩ := w
  exact ⟨g, srcV_app e1, heldOk_app e2⟩
theorem set_mid {h t : Hm} {c d : Ce} : (h ++ c :: t).set h.length d = h ++ d :: t := by simp
theorem at_mid {h t : Hm} {c : Ce} : (h ++ c :: t)[h.length]? = some c := by simp
theorem app_mid {h t : Hm} {ws : List Va} {w : Va} (hl : ws.length < sizeLine) : meV .append (.ref h.length) [w] (h ++ .lst ws :: t) = .ok .non (h ++ .lst (ws ++ [w]) :: t) := by
  simp [meV, hl]
theorem rec_mid {h t : Hm} {m : Me} (hm : m.ofStr = false) {ws : List Va} : recOk m (.ref h.length) (h ++ .lst ws :: t) = true := by
  simp [recOk, hm, seqAt]
theorem ext_mid {h t : Hm} {ws us : List Va} {m : Nat} (hm : h.length ≠ m) (e : (h ++ Ce.lst ws :: t)[m]? = some (.lst us)) (hl : ws.length + us.length ≤ sizeLine) : meV .extend (.ref h.length) [.ref m] (h ++ .lst ws :: t) = .ok .non (h ++ .lst (ws ++ us) :: t) := by
  simp only [meV, at_mid, e]
  rw [if_pos ⟨hl, hm⟩, set_mid]
theorem forL_nil {g : List (Nat × Ce)} {t : Tg} {body : Sg → Hm → Res Fl} {σ : Sg} {h : Hm} (hg : heldOk g h) : forL g t body [] σ h = .ok (.nx σ) h := by simp [forL, hg]
theorem forL_nx {g : List (Nat × Ce)} {t : Tg} {body : Sg → Hm → Res Fl} {w : Va} {ws : List Va} {σ σ1 σ2 : Sg} {h h1 : Hm} (hg : heldOk g h) (st : setT t w σ = some σ1) (hb : body σ1 h = .ok (.nx σ2) h1) : forL g t body (w :: ws) σ h = forL g t body ws σ2 h1 := by
  conv => lhs; unfold forL
  rw [if_pos hg, st]
  dsimp only
  rw [hb, bind_ok]
theorem forL_rt {g : List (Nat × Ce)} {t : Tg} {body : Sg → Hm → Res Fl} {w v : Va} {ws : List Va} {σ σ1 : Sg} {h h1 : Hm} (hg : heldOk g h) (st : setT t w σ = some σ1) (hb : body σ1 h = .ok (.rt v) h1) : forL g t body (w :: ws) σ h = .ok (.rt v) h1 := by
  conv => lhs; unfold forL
  rw [if_pos hg, st]
  dsimp only
  rw [hb, bind_ok]
end Vy
set_option maxHeartbeats 200000
/-! == of data with types -/
namespace Vy
open PySem
def frD (x : Int × Int) : PyData := .tuple [.int x.1, .int x.2]
def ptD (p : Mr.Pt) : PyData := .tuple [frD p.1, frD p.2]
def shD (l : List Mr.Pt) : PyData := .tuple (l.map ptD)
theorem dat_fr {g : Nat → Option PyData} (x : Int × Int) : (fr x).dat g = some (frD x) := by
  show (Va.dats g [.int x.1, .int x.2]).map PyData.tuple = _
  simp [frD, Va.dat, Va.dats]
theorem dat_pt {g : Nat → Option PyData} (p : Mr.Pt) : (pt p).dat g = some (ptD p) := by
  simp only [pt, ptD, Va.dat, Va.dats, dat_fr]
  rfl
theorem dats_map {α : Type} {g : Nat → Option PyData} {f : α → Va} {d : α → PyData} (hf : ∀ a, (f a).dat g = some (d a)) : ∀ l : List α, Va.dats g (l.map f) = some (l.map d)
  | [] => rfl
  | a :: l => by
    show (match (f a).dat g, Va.dats g (l.map f) with | some d, some ds => some (d :: ds) | _, _ => none) = _
    rw [hf a, dats_map hf l]
    rfl
theorem dat_sh {g : Nat → Option PyData} (l : List Mr.Pt) : (sh l).dat g = some (shD l) := by
  show (Va.dats g (l.map pt)).map PyData.tuple = _
  rw [dats_map dat_pt]
  rfl
theorem canLay_map {α : Type} {d : α → PyData} (hd : ∀ a, (d a).canLay0 = true) : ∀ l : List α, PyData.canLayAll0 (l.map d) = true
  | [] => by simp [PyData.canLayAll0]
  | a :: l => by simp [PyData.canLayAll0, hd a, canLay_map hd l]
theorem depth_map {α : Type} {n : Nat} {d : α → PyData} (hd : ∀ a, (d a).depth ≤ n) : ∀ l : List α, PyData.depthAll (l.map d) ≤ n
  | [] => by simp [PyData.depthAll]
  | a :: l => by
    have h1 := hd a
    have h2 := depth_map hd l
    simp [PyData.depthAll]
    omega
theorem lay_fr (x : Int × Int) : (frD x).canLay0 = true := by simp [frD, PyData.canLay0, PyData.canLayAll0]
theorem lay_pt (p : Mr.Pt) : (ptD p).canLay0 = true := by simp [ptD, PyData.canLay0, PyData.canLayAll0, lay_fr]
theorem lay_sh (l : List Mr.Pt) : (shD l).canLay0 = true := by simp [shD, PyData.canLay0, canLay_map lay_pt]
theorem dep_fr (x : Int × Int) : (frD x).depth ≤ 1 := by simp [frD, PyData.depth, PyData.depthAll]
theorem dep_pt (p : Mr.Pt) : (ptD p).depth ≤ 2 := by
  have h1 := dep_fr p.1
  have h2 := dep_fr p.2
  simp [ptD, PyData.depth, PyData.depthAll]
  omega
theorem dep_sh (l : List Mr.Pt) : (shD l).depth ≤ 3 := by
  have := depth_map dep_pt l
  simp [shD, PyData.depth]
  omega
theorem shaped_of {d : PyData} {n : Nat} (h1 : d.canLay0 = true) (h2 : d.depth ≤ n) (h3 : n ≤ 64) : SeqAt.shaped d = true := by
  simp [SeqAt.shaped, h1]
  omega
theorem eqv_fr (x y : Int × Int) : PyData.eqv (frD x) (frD y) = decide (x = y) := by
  simp [frD, PyData.eqv, PyData.eqvAll]
  rw [Bool.eq_iff_iff]
  simp [Prod.ext_iff]
theorem eqv_pt (x y : Mr.Pt) : PyData.eqv (ptD x) (ptD y) = decide (x = y) := by
  simp [ptD, PyData.eqv, PyData.eqvAll, eqv_fr]
  rw [Bool.eq_iff_iff]
  simp [Prod.ext_iff]
theorem eqvAll_map {α : Type} [DecidableEq α] {d : α → PyData} (hd : ∀ a b, PyData.eqv (d a) (d b) = decide (a = b)) : ∀ l m : List α, PyData.eqvAll (l.map d) (m.map d) = decide (l = m)
  | [], [] => by simp [PyData.eqvAll]
  | [], _ :: _ => by simp [PyData.eqvAll]
  | _ :: _, [] => by simp [PyData.eqvAll]
  | a :: l, b :: m => by
    simp [PyData.eqvAll, hd, eqvAll_map hd l m]
theorem eqv_sh (l m : List Mr.Pt) : PyData.eqv (shD l) (shD m) = decide (l = m) := by
  simp [shD, PyData.eqv, eqvAll_map eqv_pt]
theorem eqP_of {h : Hm} {a b : Va} {d e : PyData} (h1 : dat h a = some d) (h2 : dat h b = some e) (h3 : SeqAt.shaped d = true) (h4 : SeqAt.shaped e = true) : eqP h a b = some (PyData.eqv d e) := by
  simp [eqP, h1, h2, h3, h4]
@[simp] theorem q_eq_fr {h : Hm} {x y : Int × Int} : cmpP h .eq (fr x) (fr y) = some (decide (x = y)) := by
  have := eqP_of (h := h) (dat_fr x) (dat_fr y) (shaped_of (lay_fr x) (dep_fr x) (by decide)) (shaped_of (lay_fr y) (dep_fr y) (by decide))
  rw [eqv_fr] at this
  exact this
@[simp] theorem q_eq_pt {h : Hm} {x y : Mr.Pt} : cmpP h .eq (pt x) (pt y) = some (decide (x = y)) := by
  have := eqP_of (h := h) (dat_pt x) (dat_pt y) (shaped_of (lay_pt x) (dep_pt x) (by decide)) (shaped_of (lay_pt y) (dep_pt y) (by decide))
  rw [eqv_pt] at this
  exact this
@[simp] theorem q_eq_sh {h : Hm} {x y : List Mr.Pt} : cmpP h .eq (sh x) (sh y) = some (decide (x = y)) := by
  have := eqP_of (h := h) (dat_sh x) (dat_sh y) (shaped_of (lay_sh x) (dep_sh x) (by decide)) (shaped_of (lay_sh y) (dep_sh y) (by decide))
  rw [eqv_sh] at this
  exact this
@[simp] theorem q_eq_sh0 {h : Hm} {x : List Mr.Pt} : cmpP h .eq (sh x) (.tup []) = some (decide (x = [])) := q_eq_sh (y := [])
@[simp] theorem q_ne_fr {h : Hm} {x y : Int × Int} : cmpP h .ne (fr x) (fr y) = some (!decide (x = y)) := by
  show (cmpP h .eq (fr x) (fr y)).map (!·) = _
  rw [q_eq_fr]; rfl
@[simp] theorem q_ne_pt {h : Hm} {x y : Mr.Pt} : cmpP h .ne (pt x) (pt y) = some (!decide (x = y)) := by
  show (cmpP h .eq (pt x) (pt y)).map (!·) = _
  rw [q_eq_pt]; rfl
@[simp] theorem q_ne_sh {h : Hm} {x y : List Mr.Pt} : cmpP h .ne (sh x) (sh y) = some (!decide (x = y)) := by
  show (cmpP h .eq (sh x) (sh y)).map (!·) = _
  rw [q_eq_sh]; rfl
end Vy
set_option maxHeartbeats 200000
/-! repr's text is there -/
namespace Vy
open PySem
mutual
/-- a bound of the length of a text -/
def shL : PyData → Nat
  | .none => 4
  | .bool _ => 5
  | .int _ => 901
  | .str x => 10 * x.length + 2
  | .list xs => shLs xs + 4
  | .tuple xs => shLs xs + 4
  | .dict _ => 0
def shLs : List PyData → Nat
  | [] => 0
  | x :: xs => shL x + 2 + shLs xs
/-- signs that Python writes -/
def plain : PyData → Bool
  | .str x => x.cps.toList.all fun c => decide (c < 128)
  | .list xs => plains xs
  | .tuple xs => plains xs
  | .dict _ => false
  | _ => true
def plains : List PyData → Bool
  | [] => true
  | x :: xs => plain x && plains xs
end
theorem textFrom_le : ∀ (ts : List Str) (k : Nat) (acc : Str), (textFrom k acc ts).length ≤ acc.length + piled ts
  | [], k, acc => by show acc.length ≤ _; omega
  | t :: r, k, acc => by
    have h := textFrom_le r (k + 1) (acc ++ (if k > 0 then ", " else "" : String) ++ t)
    have e : (acc ++ (if k > 0 then ", " else "" : String) ++ t).length ≤ acc.length + 2 + t.length := by
      rw [strLen_append, strLen_append]
      split
      · exact Nat.le_refl _
      · show acc.length + 0 + t.length ≤ _
        omega
    rw [piled_cons]
    show (textFrom (k + 1) (acc ++ (if k > 0 then ", " else "" : String) ++ t) r).length ≤ _
    omega
theorem join_le : ∀ ts : List Str, (Str.join ", " ts).length ≤ piled ts
  | [] => Nat.zero_le _
  | t :: r => by have := join_length_add (t :: r) (by simp); omega
theorem int_text_le {i : Int} (hi : i.natAbs.log2 < 1920) : (Str.ofString (toString i)).length ≤ 901 := by
  have small : ∀ n : Nat, n.log2 < 1920 → n < 10 ^ 900 := fun n hi => by
    have h1 : n < 2 ^ 1920 := by
      by_cases h0 : n = 0
      · rw [h0]; exact Nat.pow_pos (by decide)
      · exact (Nat.log2_lt h0).mp hi
    have h2 : (2 : Nat) ^ 1920 ≤ 10 ^ 900 := by decide +kernel
    exact Nat.lt_of_lt_of_le h1 h2
  have num : ∀ n : Nat, n.log2 < 1920 → (Str.ofString (toString ((n : Nat) : Int))).length ≤ 900 := fun n hi => by
    rw [TL.len_tl, TL.tl_num n]
    exact TL.numL_len (by decide) (small n hi)
  cases i with
  | ofNat n => have := num n hi; exact Nat.le_trans this (by decide)
  | negSucc n =>
    have h1 : Str.ofString (toString (Int.negSucc n)) = Str.ofString "-" ++ Str.ofString (toString ((n + 1 : Nat) : Int)) := by
      have e : (toString (Int.negSucc n)) = "-" ++ toString ((n + 1 : Nat) : Int) := rfl
      rw [e, Str.ofString_eq_toList, Str.ofString_eq_toList, Str.ofString_eq_toList, String.toList_append, List.map_append]
      show _ = Str.append _ _
      simp [Str.append]
    have h2 : (Str.ofString "-").length = 1 := by decide +kernel
    have h3 := num (n + 1) hi
    rw [h1, strLen_append, h2]
    omega
mutual
theorem shown_le : ∀ d : PyData, d.showable = true → plain d = true → d.shown.length ≤ shL d
  | .none, _, _ => by show (Str.ofString "None").length ≤ 4; decide +kernel
  | .bool b, _, _ => by
    cases b
    · show (Str.ofString "False").length ≤ 5; decide +kernel
    · show (Str.ofString "True").length ≤ 5; decide +kernel
  | .int i, h, _ => by
    have : i.natAbs.log2 < 1920 := by simpa [PyData.showable] using h
    exact int_text_le this
  | .str x, _, h => by
    simp only [plain] at h
    exact StrLaws.reprText_len x fun c hc => by
      have : c < 128 := by simpa using List.all_eq_true.mp h c hc
      exact Nat.lt_trans this (by decide)
  | .list xs, h, g => by
    have := shownAll_le xs (by simpa [PyData.showable] using h) (by simpa [plain] using g)
    have e := textFrom_le (PyData.shownAll xs) 0 "["
    show (textFrom 0 "[" (PyData.shownAll xs) ++ "]").length ≤ shLs xs + 4
    rw [strLen_append]
    have h1 : (("[" : String) : Str).length = 1 := by decide +kernel
    have h2 : (("]" : String) : Str).length = 1 := by decide +kernel
    omega
  | .tuple xs, h, g => by
    have := shownAll_le xs (by simpa [PyData.showable] using h) (by simpa [plain] using g)
    have e := join_le (PyData.shownAll xs)
    show (("(" : Str) ++ Str.join ", " (PyData.shownAll xs) ++ (if (PyData.shownAll xs).length == 1 then ",)" else ")" : String)).length ≤ shLs xs + 4
    rw [strLen_append, strLen_append]
    have h1 : (("(" : String) : Str).length = 1 := by decide +kernel
    have h2 : (((if (PyData.shownAll xs).length == 1 then ",)" else ")" : String)) : Str).length ≤ 2 := by split <;> decide +kernel
    omega
  | .dict _, _, g => by simp [plain] at g
theorem shownAll_le : ∀ ds : List PyData, PyData.showableAll ds = true → plains ds = true → piled (PyData.shownAll ds) ≤ shLs ds
  | [], _, _ => Nat.le_refl _
  | d :: ds, h, g => by
    simp only [PyData.showableAll, Bool.and_eq_true] at h
    simp only [plains, Bool.and_eq_true] at g
    have h1 := shown_le d h.1 g.1
    have h2 := shownAll_le ds h.2 g.2
    show piled (d.shown :: PyData.shownAll ds) ≤ shL d + 2 + shLs ds
    rw [piled_cons]
    omega
end
mutual
theorem plain_dict : ∀ d : PyData, plain d = true → d.hasDict = false
  | .none, _ => by simp [PyData.hasDict]
  | .bool _, _ => by simp [PyData.hasDict]
  | .int _, _ => by simp [PyData.hasDict]
  | .str _, _ => by simp [PyData.hasDict]
  | .list xs, h => by simp only [PyData.hasDict]; exact plains_dict xs (by simpa [plain] using h)
  | .tuple xs, h => by simp only [PyData.hasDict]; exact plains_dict xs (by simpa [plain] using h)
  | .dict _, h => by simp [plain] at h
theorem plains_dict : ∀ ds : List PyData, plains ds = true → PyData.hasDictAll ds = false
  | [], _ => by simp [PyData.hasDictAll]
  | d :: ds, h => by
    simp only [plains, Bool.and_eq_true] at h
    simp only [PyData.hasDictAll, plain_dict d h.1, plains_dict ds h.2]
    rfl
end
/-! the text's signs -/
def Asc (x : Str) : Prop := ∀ c ∈ x.cps.toList, c < 128
theorem asc_app {x y : Str} (hx : Asc x) (hy : Asc y) : Asc (x ++ y) := PySem.W.KSb.asc_app hx hy
theorem asc_int (i : Int) : Asc (Str.ofString (toString i)) := PySem.W.KSb.asc_num i
theorem asc_of {x : Str} (h : x.cps.toList.all (fun c => decide (c < 128)) = true) : Asc x := PySem.W.KSb.asc_of h
theorem asc_join {s : Str} (hs : Asc s) : ∀ {ts : List Str}, (∀ t ∈ ts, Asc t) → Asc (Str.join s ts)
  | [], _ => fun c hc => by simp [Str.join, Str.empty] at hc
  | [x], h => h x List.mem_cons_self
  | x :: y :: r, h => by
    show Asc (x ++ s ++ Str.join s (y :: r))
    exact asc_app (asc_app (h x List.mem_cons_self) hs) (asc_join hs fun t ht => h t (List.mem_cons_of_mem _ ht))
theorem asc_from : ∀ (ts : List Str) (k : Nat) (acc : Str), Asc acc → (∀ t ∈ ts, Asc t) → Asc (textFrom k acc ts)
  | [], k, acc, ha, _ => ha
  | t :: r, k, acc, ha, h => by
    refine asc_from r (k + 1) (acc ++ (if k > 0 then ", " else "" : String) ++ t) (asc_app (asc_app ha ?_) (h t List.mem_cons_self)) fun t ht => h t (List.mem_cons_of_mem _ ht)
    split
    · exact asc_of (by decide +kernel)
    · exact asc_of (by decide +kernel)
theorem asc_chars (q : Nat) (hq : q = 34 ∨ q = 39) (c : Nat) (hc : c < 128) : ∀ e ∈ Builtin.Str.reprChar q c, e < 128 := by
  have h : ([34, 39].all fun q => (List.range 128).all fun c => (Builtin.Str.reprChar q c).all fun e => decide (e < 128)) = true := by decide +kernel
  intro e he
  have h1 := List.all_eq_true.mp h q (by rcases hq with rfl | rfl <;> simp)
  have h2 := List.all_eq_true.mp h1 c (List.mem_range.mpr hc)
  simpa using List.all_eq_true.mp h2 e he
theorem asc_fold (q : Nat) (hq : q = 34 ∨ q = 39) : ∀ (l : List Nat) (acc : Array Nat), (∀ c ∈ l, c < 128) → (∀ c ∈ acc.toList, c < 128) → ∀ c ∈ (l.foldl (fun out c => out ++ (Builtin.Str.reprChar q c).toArray) acc).toList, c < 128
  | [], acc, _, ha => ha
  | c :: r, acc, hl, ha => by
    refine asc_fold q hq r (acc ++ (Builtin.Str.reprChar q c).toArray) (fun d hd => hl d (List.mem_cons_of_mem _ hd)) fun e he => ?_
    simp at he
    rcases he with he | he
    · exact ha e (by simpa using he)
    · exact asc_chars q hq c (hl c List.mem_cons_self) e he
theorem quote_or (x : Str) : reprQuote x = 34 ∨ reprQuote x = 39 := by
  unfold reprQuote
  split <;> simp
theorem asc_repr {x : Str} (h : Asc x) : Asc (reprText x) := by
  intro c hc
  have hq := quote_or x
  have hq2 : reprQuote x < 128 := by omega
  have hf := asc_fold (reprQuote x) hq x.cps.toList #[reprQuote x] h (fun c hc => by simp at hc; omega)
  rw [Array.foldl_toList] at hf
  generalize hG : x.cps.foldl (fun out c => out ++ (Builtin.Str.reprChar (reprQuote x) c).toArray) #[reprQuote x] = G at hf
  have e : (reprText x).cps = G.push (reprQuote x) := by
    rw [← hG]
    rfl
  rw [e, Array.toList_push] at hc
  rcases List.mem_append.mp hc with hc | hc
  · exact hf c hc
  · simp at hc
    omega
mutual
theorem asc_shown : ∀ d : PyData, plain d = true → Asc d.shown
  | .none, _ => asc_of (by decide +kernel)
  | .bool b, _ => by cases b <;> exact asc_of (by decide +kernel)
  | .int i, _ => asc_int i
  | .str x, h => by
    simp only [plain] at h
    exact asc_repr (asc_of h)
  | .list xs, h => asc_app (asc_from _ 0 _ (asc_of (by decide +kernel)) (asc_showns xs (by simpa [plain] using h))) (asc_of (by decide +kernel))
  | .tuple xs, h => by
    refine asc_app (asc_app (asc_of (by decide +kernel)) (asc_join (asc_of (by decide +kernel)) (asc_showns xs (by simpa [plain] using h)))) ?_
    split <;> exact asc_of (by decide +kernel)
  | .dict _, h => by simp [plain] at h
theorem asc_showns : ∀ ds : List PyData, plains ds = true → ∀ t ∈ PyData.shownAll ds, Asc t
  | [], _, t, ht => by simp [PyData.shownAll] at ht
  | d :: ds, h, t, ht => by
    simp only [plains, Bool.and_eq_true] at h
    simp only [PyData.shownAll, List.mem_cons] at ht
    rcases ht with rfl | ht
    · exact asc_shown d h.1
    · exact asc_showns ds h.2 t ht
end
theorem strOk_asc {x : Str} (h : Asc x) : PyData.strOk x = true := by
  unfold PyData.strOk
  rw [Array.all_eq_true]
  intro i hi
  have := h x.cps[i] (by simp)
  simp
  omega
theorem shaped_str {x : Str} (h : Asc x) : SeqAt.shaped (.str x) = true := shaped_of (n := 0) (by simp [PyData.canLay0, strOk_asc h]) (by simp [PyData.depth]) (by decide)
theorem q_eq_str {h : Hm} {x y : Str} (hx : Asc x) (hy : Asc y) : cmpP h .eq (.str x) (.str y) = some (decide (x = y)) := by
  have := eqP_of (h := h) (a := .str x) (b := .str y) (d := .str x) (e := .str y) rfl rfl (shaped_str hx) (shaped_str hy)
  have e : PyData.eqv (.str x) (.str y) = decide (x = y) := by
    simp only [PyData.eqv]
    rw [Bool.eq_iff_iff]
    simp
  rw [e] at this
  exact this
theorem q_ne_str {h : Hm} {x y : Str} (hx : Asc x) (hy : Asc y) : cmpP h .ne (.str x) (.str y) = some (!decide (x = y)) := by
  show (cmpP h .eq (.str x) (.str y)).map (!·) = _
  rw [q_eq_str hx hy]
  rfl
/-- what repr needs -/
def repOk (d : PyData) : Bool := d.showable && plain d && decide (d.depth ≤ 100) && decide (shL d + 64 ≤ sizeLine)
theorem repr_of {h : Hm} {w : Va} {d : PyData} (e : dat h w = some d) (r : repOk d = true) : reprV h w = some d.shown := by
  unfold repOk at r
  simp only [Bool.and_eq_true, decide_eq_true_eq] at r
  obtain ⟨⟨⟨h1, h2⟩, h3⟩, h4⟩ := r
  have := shown_le d h1 h2
  unfold reprV
  rw [e]
  dsimp only
  rw [if_pos ⟨h1, plain_dict d h2, h3, by omega⟩]
theorem bi_repr {h : Hm} {w : Va} {d : PyData} (e : dat h w = some d) (r : repOk d = true) : biV .repr [w] h = .ok (.str d.shown) h := by
  show ofO h ((reprV h w).map .str) = _
  rw [repr_of e r]
  rfl
theorem repOk_of {d : PyData} (a : d.showable = true) (b : plain d = true) (c : d.depth ≤ 100) (e : shL d + 64 ≤ 16777216) : repOk d = true := by
  unfold repOk
  simp only [a, b, Bool.and_eq_true, decide_eq_true_eq]
  exact ⟨⟨⟨trivial, trivial⟩, c⟩, e⟩
theorem repOk_plain {d : PyData} (r : repOk d = true) : plain d = true := by
  unfold repOk at r
  simp only [Bool.and_eq_true] at r
  exact r.1.1.2
/-- two texts that repr writes -/
theorem repr_eq {h : Hm} {w w' : Va} {d d' : PyData} (e : dat h w = some d) (r : repOk d = true) (e' : dat h w' = some d') (r' : repOk d' = true) :
    ∃ a b, biV .repr [w] h = .ok a h ∧ biV .repr [w'] h = .ok b h ∧ cmpP h .eq a b = some (decide (d.shown = d'.shown)) ∧ cmpP h .ne a b = some (!decide (d.shown = d'.shown)) :=
  ⟨_, _, bi_repr e r, bi_repr e' r', q_eq_str (asc_shown d (repOk_plain r)) (asc_shown d' (repOk_plain r')), q_ne_str (asc_shown d (repOk_plain r)) (asc_shown d' (repOk_plain r'))⟩
/-! repr of data with types -/
def smI (i : Int) : Bool := decide (i.natAbs.log2 < 1920)
def smF (x : Int × Int) : Bool := smI x.1 && smI x.2
def smP (p : Mr.Pt) : Bool := smF p.1 && smF p.2
theorem shows_fr {x : Int × Int} (h : smF x = true) : (frD x).showable = true ∧ plain (frD x) = true ∧ shL (frD x) ≤ 1810 := by
  unfold smF smI at h
  simp only [Bool.and_eq_true, decide_eq_true_eq] at h
  simp [frD, PyData.showable, PyData.showableAll, plain, plains, shL, shLs, h]
theorem shows_pt {p : Mr.Pt} (h : smP p = true) : (ptD p).showable = true ∧ plain (ptD p) = true ∧ shL (ptD p) ≤ 3628 := by
  unfold smP at h
  simp only [Bool.and_eq_true] at h
  obtain ⟨a1, a2, a3⟩ := shows_fr h.1
  obtain ⟨b1, b2, b3⟩ := shows_fr h.2
  simp [ptD, PyData.showable, PyData.showableAll, plain, plains, shL, shLs, a1, a2, b1, b2]
  omega
theorem shows_map {α : Type} {d : α → PyData} {n : Nat} {q : α → Bool} (hd : ∀ a, q a = true → (d a).showable = true ∧ plain (d a) = true ∧ shL (d a) ≤ n) : ∀ l : List α, l.all q = true → PyData.showableAll (l.map d) = true ∧ plains (l.map d) = true ∧ shLs (l.map d) ≤ l.length * (n + 2)
  | [], _ => by simp [PyData.showableAll, plains, shLs]
  | a :: l, h => by
    simp only [List.all_cons, Bool.and_eq_true] at h
    obtain ⟨a1, a2, a3⟩ := hd a h.1
    obtain ⟨b1, b2, b3⟩ := shows_map hd l h.2
    refine ⟨by simp [PyData.showableAll, a1, b1], by simp [plains, a2, b2], ?_⟩
    simp only [List.map_cons, shLs, List.length_cons, Nat.succ_mul]
    omega
theorem rep_fr {x : Int × Int} (h : smF x = true) : repOk (frD x) = true := by
  obtain ⟨a, b, c⟩ := shows_fr h
  have := dep_fr x
  exact repOk_of a b (by omega) (by omega)
theorem rep_pt {x : Mr.Pt} (h : smP x = true) : repOk (ptD x) = true := by
  obtain ⟨a, b, c⟩ := shows_pt h
  have := dep_pt x
  exact repOk_of a b (by omega) (by omega)
theorem rep_sh {l : List Mr.Pt} (h : l.all smP = true) (hl : l.length ≤ 4000) : repOk (shD l) = true := by
  obtain ⟨a, b, c⟩ := shows_map (fun p hp => shows_pt hp) l h
  have h1 := dep_sh l
  have h2 : shLs (l.map ptD) ≤ 4000 * 3630 := Nat.le_trans c (Nat.mul_le_mul_right _ hl)
  have e1 : (shD l).showable = true := by simp [shD, PyData.showable, a]
  have e2 : plain (shD l) = true := by simp [shD, plain, b]
  have e3 : shL (shD l) = shLs (l.map ptD) + 4 := by simp [shD, shL]
  exact repOk_of e1 e2 (by omega) (by omega)
theorem rep_int {i : Int} (h : smI i = true) : repOk (.int i) = true := by
  unfold smI at h
  simp only [decide_eq_true_eq] at h
  simp [repOk, PyData.showable, plain, PyData.depth, shL, sizeLine, h]
end Vy
set_option maxHeartbeats 0
namespace Vy
open PySem
def i_is_whole : Df := ⟨1, 1, (.cons (.ret (.and (.bi .isinst (.cons (.var 0) (.cons (.cst (.ty "int")) .nil))) (.not (.bi .isinst (.cons (.var 0) (.cons (.cst (.ty "bool")) .nil)))))) .nil)⟩
def i_is_integer : Df := ⟨3, 3, (.cons (.ret (.and (.call 0 (Str.ofString "is_whole") (.cons (.var 0) .nil)) (.and (.cmp .le (.var 1) (.var 0)) (.or (.cmp .is (.var 2) (.cst .non)) (.cmp .le (.var 0) (.var 2)))))) .nil)⟩
def i_is_tuple : Df := ⟨3, 3, (.cons (.ret (.and (.bi .isinst (.cons (.var 0) (.cons (.cst (.ty "tuple")) .nil))) (.and (.cmp .le (.var 1) (.bi .len (.cons (.var 0) .nil))) (.or (.cmp .is (.var 2) (.cst .non)) (.cmp .le (.bi .len (.cons (.var 0) .nil)) (.var 2)))))) .nil)⟩
def w_common_1 : Xp := (.cmp .ne (.var 1) (.cst (.int 0)))
def b_common_1 : Ss := (.cons (.set (.tup [(.nm 0), (.nm 1)]) (.tup (.cons (.var 1) (.cons (.bin .mod (.var 0) (.var 1)) .nil)))) .nil)
def s_common_1 : Sm := .whl w_common_1 b_common_1
def i_common : Df := ⟨2, 2, (.cons (.set (.tup [(.nm 0), (.nm 1)]) (.tup (.cons (.bi .abs (.cons (.var 0) .nil)) (.cons (.bi .abs (.cons (.var 1) .nil)) .nil)))) (.cons s_common_1 (.cons (.ret (.var 0)) .nil)))⟩
def i_fraction : Df := ⟨3, 2, (.cons (.set (.nm 2) (.call 3 (Str.ofString "common") (.cons (.var 0) (.cons (.var 1) .nil)))) (.cons (.set (.nm 2) (.ife (.cmp .gt (.var 1) (.cst (.int 0))) (.var 2) (.neg (.var 2)))) (.cons (.ret (.tup (.cons (.bin .fdiv (.var 0) (.var 2)) (.cons (.bin .fdiv (.var 1) (.var 2)) .nil)))) .nil)))⟩
def i_whole : Df := ⟨1, 1, (.cons (.ret (.tup (.cons (.var 0) (.cons (.cst (.int 1)) .nil)))) .nil)⟩
def x_is_fraction_1 : Xp := .lc [1] (.call 0 (Str.ofString "is_whole") (.cons (.var 1) .nil)) (.nm 1) (.seq (.var 0)) .none
def i_is_fraction : Df := ⟨2, 1, (.cons (.ife (.or (.not (.call 2 (Str.ofString "is_tuple") (.cons (.var 0) (.cons (.glob 0 (Str.ofString "PAIR_numbers")) (.cons (.glob 0 (Str.ofString "PAIR_numbers")) .nil))))) (.not (.gc (.bi .all (.cons x_is_fraction_1 .nil))))) (.cons (.ret (.cst (.bl false))) .nil) .nil) (.cons (.ret (.and (.cmp .ge (.idx (.var 0) (.cst (.int 1))) (.cst (.int 1))) (.cmp .eq (.call 3 (Str.ofString "common") (.cons (.idx (.var 0) (.cst (.int 0))) (.cons (.idx (.var 0) (.cst (.int 1))) .nil))) (.cst (.int 1))))) .nil))⟩
def i_plus : Df := ⟨2, 2, (.cons (.ret (.call 4 (Str.ofString "fraction") (.cons (.bin .add (.bin .mul (.idx (.var 0) (.cst (.int 0))) (.idx (.var 1) (.cst (.int 1)))) (.bin .mul (.idx (.var 1) (.cst (.int 0))) (.idx (.var 0) (.cst (.int 1))))) (.cons (.bin .mul (.idx (.var 0) (.cst (.int 1))) (.idx (.var 1) (.cst (.int 1)))) .nil)))) .nil)⟩
def i_times : Df := ⟨2, 2, (.cons (.ret (.call 4 (Str.ofString "fraction") (.cons (.bin .mul (.idx (.var 0) (.cst (.int 0))) (.idx (.var 1) (.cst (.int 0)))) (.cons (.bin .mul (.idx (.var 0) (.cst (.int 1))) (.idx (.var 1) (.cst (.int 1)))) .nil)))) .nil)⟩
def i_is_below : Df := ⟨2, 2, (.cons (.ret (.cmp .lt (.bin .mul (.idx (.var 0) (.cst (.int 0))) (.idx (.var 1) (.cst (.int 1)))) (.bin .mul (.idx (.var 1) (.cst (.int 0))) (.idx (.var 0) (.cst (.int 1)))))) .nil)⟩
def i_is_point : Df := ⟨1, 1, (.cons (.ret (.and (.call 2 (Str.ofString "is_tuple") (.cons (.var 0) (.cons (.glob 1 (Str.ofString "PAIR_points")) (.cons (.glob 1 (Str.ofString "PAIR_points")) .nil)))) (.and (.call 6 (Str.ofString "is_fraction") (.cons (.idx (.var 0) (.cst (.int 0))) .nil)) (.call 6 (Str.ofString "is_fraction") (.cons (.idx (.var 0) (.cst (.int 1))) .nil))))) .nil)⟩
def x_is_name_1 : Xp := .lc [1] (.cmp .inn (.var 1) (.glob 12 (Str.ofString "NAMED"))) (.nm 1) (.seq (.var 0)) .none
def i_is_name : Df := ⟨2, 1, (.cons (.ife (.or (.not (.bi .isinst (.cons (.var 0) (.cons (.cst (.ty "str")) .nil)))) (.or (.cmp .eq (.var 0) (.cst (.str (Str.ofString "")))) (.cmp .gt (.bi .len (.cons (.var 0) .nil)) (.glob 2 (Str.ofString "EIGHT"))))) (.cons (.ret (.cst (.bl false))) .nil) .nil) (.cons (.ret (.and (.cmp .inn (.idx (.var 0) (.cst (.int 0))) (.glob 11 (Str.ofString "LETTERS"))) (.gc (.bi .all (.cons x_is_name_1 .nil))))) .nil))⟩
def i_is_bound : Df := ⟨1, 1, (.cons (.ret (.or (.cmp .is (.var 0) (.cst .non)) (.call 1 (Str.ofString "is_integer") (.cons (.var 0) (.cons (.neg (.glob 7 (Str.ofString "MOST_BOUND"))) (.cons (.glob 7 (Str.ofString "MOST_BOUND")) .nil)))))) .nil)⟩
def i_are_bounds : Df := ⟨2, 2, (.cons (.ife (.or (.not (.call 12 (Str.ofString "is_bound") (.cons (.var 0) .nil))) (.or (.not (.call 12 (Str.ofString "is_bound") (.cons (.var 1) .nil))) (.and (.cmp .is (.var 0) (.cst .non)) (.cmp .is (.var 1) (.cst .non))))) (.cons (.ret (.cst (.bl false))) .nil) .nil) (.cons (.ret (.or (.cmp .is (.var 0) (.cst .non)) (.or (.cmp .is (.var 1) (.cst .non)) (.cmp .le (.var 0) (.var 1))))) .nil))⟩
def i_is_reading : Df := ⟨9, 1, (.cons (.ife (.not (.call 2 (Str.ofString "is_tuple") (.cons (.var 0) (.cons (.glob 2 (Str.ofString "EIGHT")) (.cons (.glob 2 (Str.ofString "EIGHT")) .nil))))) (.cons (.ret (.cst (.bl false))) .nil) .nil) (.cons (.set (.tup [(.nm 1), (.nm 2), (.nm 3), (.nm 4), (.nm 5), (.nm 6), (.nm 7), (.nm 8)]) (.var 0)) (.cons (.ife (.or (.not (.call 11 (Str.ofString "is_name") (.cons (.var 1) .nil))) (.or (.not (.call 1 (Str.ofString "is_integer") (.cons (.var 2) (.cons (.cst (.int 0)) (.cons (.bin .sub (.glob 3 (Str.ofString "MOST_AXES")) (.cst (.int 1))) .nil))))) (.not (.call 1 (Str.ofString "is_integer") (.cons (.var 3) (.cons (.cst (.int 0)) (.cons (.bin .sub (.glob 4 (Str.ofString "MOST_TICKS")) (.cst (.int 1))) .nil))))))) (.cons (.ret (.cst (.bl false))) .nil) .nil) (.cons (.ife (.not (.call 1 (Str.ofString "is_integer") (.cons (.var 4) (.cons (.var 3) (.cons (.bi .min (.cons (.bin .add (.var 3) (.glob 10 (Str.ofString "MOST_WIDE"))) (.cons (.bin .sub (.glob 4 (Str.ofString "MOST_TICKS")) (.cst (.int 1))) .nil))) .nil))))) (.cons (.ret (.cst (.bl false))) .nil) .nil) (.cons (.ife (.or (.not (.call 1 (Str.ofString "is_integer") (.cons (.var 5) (.cons (.neg (.glob 6 (Str.ofString "MOST_PART"))) (.cons (.glob 6 (Str.ofString "MOST_PART")) .nil))))) (.or (.not (.call 1 (Str.ofString "is_integer") (.cons (.var 6) (.cons (.neg (.glob 6 (Str.ofString "MOST_PART"))) (.cons (.glob 6 (Str.ofString "MOST_PART")) .nil))))) (.cmp .eq (.tup (.cons (.var 5) (.cons (.var 6) .nil))) (.tup (.cons (.cst (.int 0)) (.cons (.cst (.int 0)) .nil)))))) (.cons (.ret (.cst (.bl false))) .nil) .nil) (.cons (.ret (.call 13 (Str.ofString "are_bounds") (.cons (.var 7) (.cons (.var 8) .nil)))) .nil))))))⟩
def i_check_reading : Df := ⟨1, 1, (.cons (.ife (.not (.call 14 (Str.ofString "is_reading") (.cons (.var 0) .nil))) (.cons .never .nil) .nil) .nil)⟩
def x_sources_of_1 : Xp := .sds [1] (.idx (.var 1) (.cst (.int 0))) (.nm 1) (.seq (.var 0))
def i_sources_of : Df := ⟨2, 1, (.cons (.ret x_sources_of_1) .nil)⟩
def i_is_unsure : Df := ⟨1, 1, (.cons (.ret (.cmp .ne (.idx (.var 0) (.glob 13 (Str.ofString "PAIR_readings"))) (.idx (.var 0) (.bin .add (.glob 13 (Str.ofString "PAIR_readings")) (.cst (.int 1)))))) .nil)⟩
def x_are_few_1 : Xp := .lc [1] (.var 1) (.nm 1) (.seq (.var 0)) (.some (.call 17 (Str.ofString "is_unsure") (.cons (.var 1) .nil)))
def i_are_few : Df := ⟨2, 1, (.cons (.ife (.or (.cmp .gt (.bi .len (.cons (.var 0) .nil)) (.glob 5 (Str.ofString "MOST_READINGS"))) (.cmp .gt (.gc (.bi .len (.cons (.call 16 (Str.ofString "sources_of") (.cons (.var 0) .nil)) .nil))) (.glob 8 (Str.ofString "MOST_SOURCES")))) (.cons (.ret (.cst (.bl false))) .nil) .nil) (.cons (.ret (.cmp .le (.gc (.bi .len (.cons x_are_few_1 .nil))) (.glob 9 (Str.ofString "MOST_UNSURE")))) .nil))⟩
def x_check_readings_1 : Xp := .lc [1] (.call 14 (Str.ofString "is_reading") (.cons (.var 1) .nil)) (.nm 1) (.seq (.var 0)) .none
def i_check_readings : Df := ⟨2, 1, (.cons (.ife (.or (.not (.bi .isinst (.cons (.var 0) (.cons (.cst (.ty "tuple")) .nil)))) (.or (.not (.gc (.bi .all (.cons x_check_readings_1 .nil)))) (.not (.call 18 (Str.ofString "are_few") (.cons (.var 0) .nil))))) (.cons .never .nil) .nil) .nil)⟩
def i_value_of : Df := ⟨3, 3, (.cons (.ret (.call 7 (Str.ofString "plus") (.cons (.call 8 (Str.ofString "times") (.cons (.call 5 (Str.ofString "whole") (.cons (.var 0) .nil)) (.cons (.idx (.var 2) (.cst (.int 0))) .nil))) (.cons (.call 8 (Str.ofString "times") (.cons (.call 5 (Str.ofString "whole") (.cons (.var 1) .nil)) (.cons (.idx (.var 2) (.cst (.int 1))) .nil))) .nil)))) .nil)⟩
def i_is_met_at : Df := ⟨8, 2, (.cons (.set (.tup [(.nm 2), (.nm 3), (.nm 4), (.nm 5), (.nm 6)]) (.tup (.cons (.idx (.var 0) (.cst (.int 1))) (.star (.slc (.var 0) (.some (.neg (.cst (.int 4)))) .none) .nil)))) (.cons (.set (.nm 7) (.call 20 (Str.ofString "value_of") (.cons (.var 3) (.cons (.var 4) (.cons (.idx (.var 1) (.var 2)) .nil))))) (.cons (.ife (.and (.cmp .isnot (.var 5) (.cst .non)) (.call 9 (Str.ofString "is_below") (.cons (.var 7) (.cons (.call 5 (Str.ofString "whole") (.cons (.var 5) .nil)) .nil)))) (.cons (.ret (.cst (.bl false))) .nil) .nil) (.cons (.ret (.or (.cmp .is (.var 6) (.cst .non)) (.not (.call 9 (Str.ofString "is_below") (.cons (.call 5 (Str.ofString "whole") (.cons (.var 6) .nil)) (.cons (.var 7) .nil)))))) .nil))))⟩
def x_is_fulfilled_1 : Xp := .lc [2] (.call 21 (Str.ofString "is_met_at") (.cons (.var 0) (.cons (.var 2) .nil))) (.nm 2) (.seq (.slc (.var 1) (.some (.idx (.var 0) (.glob 13 (Str.ofString "PAIR_readings")))) (.some (.bin .add (.idx (.var 0) (.bin .add (.glob 13 (Str.ofString "PAIR_readings")) (.cst (.int 1)))) (.cst (.int 1)))))) .none
def i_is_fulfilled : Df := ⟨3, 2, (.cons (.ret (.gc (.bi .any (.cons x_is_fulfilled_1 .nil)))) .nil)⟩
def x_is_state_1 : Xp := .lc [3] (.call 10 (Str.ofString "is_point") (.cons (.var 3) .nil)) (.nm 3) (.seq (.var 0)) .none
def i_is_state : Df := ⟨4, 3, (.cons (.ret (.and (.call 2 (Str.ofString "is_tuple") (.cons (.var 0) (.cons (.var 1) (.cons (.var 2) .nil)))) (.gc (.bi .all (.cons x_is_state_1 .nil))))) .nil)⟩
def x_check_states_1 : Xp := .lc [2] (.call 23 (Str.ofString "is_state") (.cons (.var 2) (.cons (.cst (.int 1)) (.cons (.glob 3 (Str.ofString "MOST_AXES")) .nil)))) (.nm 2) (.seq (.var 1)) .none
def x_check_states_2 : Xp := .ldi [2] (.bi .len (.cons (.var 2) .nil)) (.nm 2) (.seq (.var 1))
def i_check_states : Df := ⟨3, 2, (.cons (.ife (.or (.not (.call 2 (Str.ofString "is_tuple") (.cons (.var 1) (.cons (.cst (.int 1)) (.cons (.glob 4 (Str.ofString "MOST_TICKS")) .nil))))) (.not (.gc (.bi .all (.cons x_check_states_1 .nil))))) (.cons .never .nil) .nil) (.cons (.ife (.or (.cmp .gt x_check_states_2 (.cst (.int 1))) (.or (.cmp .le (.bi .len (.cons (.var 1) .nil)) (.idx (.var 0) (.bin .add (.glob 13 (Str.ofString "PAIR_readings")) (.cst (.int 1))))) (.cmp .le (.bi .len (.cons (.idx (.var 1) (.cst (.int 0))) .nil)) (.idx (.var 0) (.cst (.int 1)))))) (.cons .never .nil) .nil) .nil))⟩
def i_fulfils : Df := ⟨2, 2, (.cons (.expr (.call 15 (Str.ofString "check_reading") (.cons (.var 0) .nil))) (.cons (.expr (.call 24 (Str.ofString "check_states") (.cons (.var 0) (.cons (.var 1) .nil)))) (.cons (.ret (.call 22 (Str.ofString "is_fulfilled") (.cons (.var 0) (.cons (.var 1) .nil)))) .nil)))⟩
def i_sources : Df := ⟨1, 1, (.cons (.expr (.call 19 (Str.ofString "check_readings") (.cons (.var 0) .nil))) (.cons (.ret (.gc (.bi .tuple (.cons (.call 16 (Str.ofString "sources_of") (.cons (.var 0) .nil)) .nil)))) .nil))⟩
def i__law_pot : Df := ⟨5, 2, (.cons (.set (.nm 2) (.ife (.cmp .lt (.var 1) (.bi .len (.cons (.var 0) .nil))) (.idx (.var 0) (.var 1)) (.bin .add (.bin .add (.bin .mod (.bi .int (.cons (.bi .sum (.cons (.slc (.var 0) .none (.some (.cst (.int 1)))) .nil)) .nil)) (.cst (.int 1000003))) (.bin .mul (.cst (.int 2351)) (.var 1))) (.cst (.int 1699))))) (.cons (.set (.nm 3) (.bin .mul (.bin .mod (.bi .int (.cons (.bi .abs (.cons (.var 2) .nil)) .nil)) (.bin .pow (.bin .pow (.cst (.int 10)) (.cst (.int 60))) (.cst (.int 5)))) (.bi .int (.cons (.cmp .ge (.bi .abs (.cons (.var 2) .nil)) (.bin .pow (.cst (.int 10)) (.cst (.int 18)))) .nil)))) (.cons (.set (.nm 4) (.bin .mod (.bi .int (.cons (.var 2) .nil)) (.cst (.int 2305843009213693951)))) (.cons (.ret (.lst (.cons (.var 3) (.cons (.bin .mod (.bi .int (.cons (.bin .add (.bin .add (.bin .mul (.var 4) (.cst (.int 85837))) (.bin .mul (.bin .mul (.cst (.int 10993)) (.var 1)) (.var 1))) (.cst (.int 1361))) .nil)) (.cst (.int 2305843009213693921))) (.cons (.cst (.int 0)) .nil))))) .nil))))⟩
def i__law_take : Df := ⟨5, 2, (.cons (.ife (.cmp .gt (.idx (.var 0) (.cst (.int 0))) (.cst (.int 0))) (.cons (.set (.nm 4) (.bin .mod (.bi .int (.cons (.idx (.var 0) (.cst (.int 0))) .nil)) (.var 1))) (.cons (.setIx (.var 0) (.cst (.int 0)) (.bin .fdiv (.idx (.var 0) (.cst (.int 0))) (.var 1))) (.cons (.ret (.var 4)) .nil))) .nil) (.cons (.setIx (.var 0) (.cst (.int 2)) (.bin .add (.idx (.var 0) (.cst (.int 2))) (.cst (.int 1)))) (.cons (.set (.nm 2) (.idx (.lst (.cons (.cst (.int 2147483647)) (.cons (.cst (.int 2147483629)) (.cons (.cst (.int 2147483587)) (.cons (.cst (.int 2147483579)) (.cons (.cst (.int 2147483563)) .nil)))))) (.bin .mod (.bi .int (.cons (.idx (.var 0) (.cst (.int 2))) .nil)) (.cst (.int 5))))) (.cons (.set (.nm 3) (.bin .mod (.bi .int (.cons (.bin .pow (.bi .int (.cons (.bin .add (.bin .add (.idx (.var 0) (.cst (.int 1))) (.bin .mul (.bin .mul (.cst (.int 100559)) (.idx (.var 0) (.cst (.int 2)))) (.idx (.var 0) (.cst (.int 2))))) (.cst (.int 2003))) .nil)) (.cst (.int 3))) .nil)) (.var 2))) (.cons (.ret (.bin .mod (.bi .int (.cons (.bin .fdiv (.bin .mul (.var 3) (.bin .add (.bin .mod (.bi .int (.cons (.var 3) .nil)) (.cst (.int 10559))) (.bin .mul (.cst (.int 269)) (.idx (.var 0) (.cst (.int 2)))))) (.cst (.int 151))) .nil)) (.var 1))) .nil)))))⟩
def i__law_of : Df := ⟨2, 2, (.cons (.ret (.idx (.var 1) (.call 28 (Str.ofString "_law_take") (.cons (.var 0) (.cons (.bi .len (.cons (.var 1) .nil)) .nil))))) .nil)⟩
def i__law_cells : Df := ⟨2, 2, (.cons (.ret (.bi .lrange (.cons (.bi .max (.cons (.cst (.int 1)) (.cons (.bi .min (.cons (.var 1) (.cons (.bi .len (.cons (.var 0) .nil)) .nil))) .nil))) .nil))) .nil)⟩
def w__law_common_1 : Xp := (.cmp .ne (.var 1) (.cst (.int 0)))
def b__law_common_1 : Ss := (.cons (.set (.tup [(.nm 0), (.nm 1)]) (.tup (.cons (.var 1) (.cons (.bin .mod (.var 0) (.var 1)) .nil)))) .nil)
def s__law_common_1 : Sm := .whl w__law_common_1 b__law_common_1
def i__law_common : Df := ⟨2, 2, (.cons (.set (.tup [(.nm 0), (.nm 1)]) (.tup (.cons (.bi .abs (.cons (.var 0) .nil)) (.cons (.bi .abs (.cons (.var 1) .nil)) .nil)))) (.cons s__law_common_1 (.cons (.ret (.var 0)) .nil)))⟩
def i__law_fraction : Df := ⟨3, 2, (.cons (.set (.nm 2) (.call 31 (Str.ofString "_law_common") (.cons (.var 0) (.cons (.var 1) .nil)))) (.cons (.ret (.ife (.cmp .gt (.var 1) (.cst (.int 0))) (.tup (.cons (.bin .fdiv (.var 0) (.var 2)) (.cons (.bin .fdiv (.var 1) (.var 2)) .nil))) (.tup (.cons (.bin .fdiv (.neg (.var 0)) (.var 2)) (.cons (.bin .fdiv (.neg (.var 1)) (.var 2)) .nil))))) .nil))⟩
def i__law_drawn_fraction : Df := ⟨2, 2, (.cons (.ret (.call 32 (Str.ofString "_law_fraction") (.cons (.bin .sub (.call 28 (Str.ofString "_law_take") (.cons (.var 0) (.cons (.bin .add (.bin .mul (.cst (.int 6)) (.var 1)) (.cst (.int 1))) .nil))) (.bin .mul (.cst (.int 3)) (.var 1))) (.cons (.gc (.call 29 (Str.ofString "_law_of") (.cons (.var 0) (.cons (.lst (.cons (.cst (.int 1)) (.cons (.cst (.int 1)) (.cons (.cst (.int 2)) (.cons (.cst (.int 3)) .nil))))) .nil)))) .nil)))) .nil)⟩
def x__law_drawn_states_2 : Xp := .lc [4] (.tup (.cons (.call 33 (Str.ofString "_law_drawn_fraction") (.cons (.var 0) (.cons (.cst (.int 4)) .nil))) (.cons (.call 33 (Str.ofString "_law_drawn_fraction") (.cons (.var 0) (.cons (.cst (.int 2)) .nil))) .nil))) (.nm 4) (.of .rng (.cons (.var 2) .nil)) .none
def x__law_drawn_states_1 : Xp := .lc [3] (.gc (.bi .tuple (.cons x__law_drawn_states_2 .nil))) (.nm 3) (.of .rng (.cons (.var 1) .nil)) .none
def i__law_drawn_states : Df := ⟨5, 3, (.cons (.ret (.gc (.bi .tuple (.cons x__law_drawn_states_1 .nil)))) .nil)⟩
def i__law_is_met : Df := ⟨8, 2, (.cons (.set (.tup [(.tup [(.nm 2), (.nm 3)]), (.tup [(.nm 4), (.nm 5)])]) (.idx (.var 1) (.idx (.var 0) (.cst (.int 1))))) (.cons (.set (.tup [(.nm 6), (.nm 7)]) (.tup (.cons (.bin .add (.bin .mul (.bin .mul (.idx (.var 0) (.cst (.int 4))) (.var 2)) (.var 5)) (.bin .mul (.bin .mul (.idx (.var 0) (.cst (.int 5))) (.var 4)) (.var 3))) (.cons (.bin .mul (.var 3) (.var 5)) .nil)))) (.cons (.ret (.and (.or (.cmp .is (.idx (.var 0) (.cst (.int 6))) (.cst .non)) (.cmp .ge (.var 6) (.bin .mul (.idx (.var 0) (.cst (.int 6))) (.var 7)))) (.or (.cmp .is (.idx (.var 0) (.cst (.int 7))) (.cst .non)) (.cmp .le (.var 6) (.bin .mul (.idx (.var 0) (.cst (.int 7))) (.var 7)))))) .nil)))⟩
def i__law_near_reading : Df := ⟨15, 2, (.cons (.set (.nm 2) (.call 28 (Str.ofString "_law_take") (.cons (.var 0) (.cons (.bi .len (.cons (.var 1) .nil)) .nil)))) (.cons (.set (.nm 3) (.bi .min (.cons (.bin .sub (.bi .len (.cons (.var 1) .nil)) (.cst (.int 1))) (.cons (.bin .add (.var 2) (.call 28 (Str.ofString "_law_take") (.cons (.var 0) (.cons (.cst (.int 4)) .nil)))) .nil)))) (.cons (.set (.tup [(.nm 4), (.tup [(.nm 5), (.nm 6)])]) (.tup (.cons (.call 28 (Str.ofString "_law_take") (.cons (.var 0) (.cons (.bi .len (.cons (.idx (.var 1) (.cst (.int 0))) .nil)) .nil))) (.cons (.gc (.call 29 (Str.ofString "_law_of") (.cons (.var 0) (.cons (.lst (.cons (.tup (.cons (.cst (.int 1)) (.cons (.cst (.int 0)) .nil))) (.cons (.tup (.cons (.cst (.int 0)) (.cons (.cst (.int 1)) .nil))) (.cons (.tup (.cons (.cst (.int 1)) (.cons (.cst (.int 1)) .nil))) (.cons (.tup (.cons (.cst (.int 2)) (.cons (.neg (.cst (.int 3))) .nil))) (.cons (.tup (.cons (.neg (.cst (.int 1))) (.cons (.cst (.int 0)) .nil))) (.cons (.tup (.cons (.cst (.int 3)) (.cons (.cst (.int 1)) .nil))) (.cons (.tup (.cons (.cst (.int 6)) (.cons (.cst (.int 6)) .nil))) .nil)))))))) .nil)))) .nil)))) (.cons (.set (.tup [(.tup [(.nm 7), (.nm 8)]), (.tup [(.nm 9), (.nm 10)])]) (.idx (.idx (.var 1) (.gc (.call 29 (Str.ofString "_law_of") (.cons (.var 0) (.cons (.lst (.cons (.var 2) (.cons (.var 3) .nil))) .nil))))) (.var 4))) (.cons (.set (.nm 11) (.bin .fdiv (.bin .add (.bin .mul (.bin .mul (.var 5) (.var 7)) (.var 10)) (.bin .mul (.bin .mul (.var 6) (.var 9)) (.var 8))) (.bin .mul (.var 8) (.var 10)))) (.cons (.set (.nm 12) (.bin .add (.var 11) (.gc (.call 29 (Str.ofString "_law_of") (.cons (.var 0) (.cons (.lst (.cons (.cst (.int 0)) (.cons (.cst (.int 0)) (.cons (.cst (.int 1)) (.cons (.neg (.cst (.int 1))) .nil))))) .nil)))))) (.cons (.set (.nm 13) (.bin .add (.var 12) (.call 28 (Str.ofString "_law_take") (.cons (.var 0) (.cons (.cst (.int 3)) .nil))))) (.cons (.set (.nm 14) (.call 28 (Str.ofString "_law_take") (.cons (.var 0) (.cons (.cst (.int 4)) .nil)))) (.cons (.ret (.tup (.cons (.gc (.call 29 (Str.ofString "_law_of") (.cons (.var 0) (.cons (.lst (.cons (.cst (.str (Str.ofString "a"))) (.cons (.cst (.str (Str.ofString "eye"))) (.cons (.cst (.str (Str.ofString "b9"))) (.cons (.cst (.str (Str.ofString "radar"))) .nil))))) .nil)))) (.cons (.var 4) (.cons (.var 2) (.cons (.var 3) (.cons (.var 5) (.cons (.var 6) (.cons (.ife (.cmp .eq (.var 14) (.cst (.int 0))) (.cst .non) (.var 12)) (.cons (.ife (.cmp .eq (.var 14) (.cst (.int 1))) (.cst .non) (.var 13)) .nil)))))))))) .nil)))))))))⟩
def x__law_right_1 : Xp := .lc [6] (.call 36 (Str.ofString "_law_near_reading") (.cons (.var 0) (.cons (.var 1) .nil))) (.nm 6) (.of .rng (.cons (.cst (.int 8)) .nil)) .none
def x__law_right_2 : Xp := .lc [7] (.call 35 (Str.ofString "_law_is_met") (.cons (.var 3) (.cons (.var 7) .nil))) (.nm 7) (.seq (.slc (.var 1) (.some (.idx (.var 3) (.cst (.int 2)))) (.some (.bin .add (.idx (.var 3) (.cst (.int 3))) (.cst (.int 1)))))) .none
def b__law_right_1 : Ss := (.cons (.set (.nm 5) (.gc (.bi .any (.cons x__law_right_2 .nil)))) (.cons (.ife (.cmp .ne (.bi .repr (.cons (.callk 25 (Str.ofString "fulfils") [(Str.ofString "reading"), (Str.ofString "states")] .nil (.cons (.var 3) (.cons (.var 1) .nil))) .nil)) (.bi .repr (.cons (.var 5) .nil))) (.cons (.ret (.cst (.bl false))) .nil) .nil) .nil))
def s__law_right_1 : Sm := .for (.nm 3) (.seq (.var 2)) b__law_right_1
def x__law_right_3 : Xp := .lc [3] (.bin .add (.bin .add (.slc (.var 3) .none (.some (.cst (.int 3)))) (.slc (.var 3) (.some (.cst (.int 2))) (.some (.cst (.int 3))))) (.slc (.var 3) (.some (.cst (.int 4))) .none)) (.nm 3) (.seq (.slc (.var 2) .none (.some (.bin .add (.cst (.int 1)) (.call 28 (Str.ofString "_law_take") (.cons (.var 0) (.cons (.cst (.int 8)) .nil))))))) .none
def x__law_right_4 : Xp := .lc [3] (.idx (.var 3) (.cst (.int 0))) (.nm 3) (.seq (.var 4)) .none
def i__law_right : Df := ⟨8, 1, (.cons (.set (.nm 1) (.call 34 (Str.ofString "_law_drawn_states") (.cons (.var 0) (.cons (.bin .add (.cst (.int 1)) (.call 28 (Str.ofString "_law_take") (.cons (.var 0) (.cons (.cst (.int 5)) .nil)))) (.cons (.bin .add (.cst (.int 1)) (.call 28 (Str.ofString "_law_take") (.cons (.var 0) (.cons (.cst (.int 3)) .nil)))) .nil))))) (.cons (.set (.nm 2) (.gc (.bi .tuple (.cons x__law_right_1 .nil)))) (.cons s__law_right_1 (.cons (.set (.nm 4) (.gc (.bi .tuple (.cons x__law_right_3 .nil)))) (.cons (.ret (.and (.cmp .eq (.bi .repr (.cons (.callk 26 (Str.ofString "sources") [(Str.ofString "readings")] .nil (.cons (.var 4) .nil)) .nil)) (.bi .repr (.cons (.gc (.bi .tuple (.cons (.gc (.sss x__law_right_4)) .nil))) .nil))) (.cmp .eq (.bi .repr (.cons (.call 26 (Str.ofString "sources") (.cons (.tup .nil) .nil)) .nil)) (.cst (.str (Str.ofString "()")))))) .nil)))))⟩
def x_law_1 : Xp := .lc [1] (.call 37 (Str.ofString "_law_right") (.cons (.call 27 (Str.ofString "_law_pot") (.cons (.var 0) (.cons (.var 1) .nil))) .nil)) (.nm 1) (.seq (.call 30 (Str.ofString "_law_cells") (.cons (.var 0) (.cons (.cst (.int 3)) .nil)))) .none
def i_law : Df := ⟨2, 1, (.cons (.ret (.gc (.bi .all (.cons x_law_1 .nil)))) .nil)⟩
def dT : List (Str × Df) := [((Str.ofString "is_whole"), i_is_whole), ((Str.ofString "is_integer"), i_is_integer), ((Str.ofString "is_tuple"), i_is_tuple), ((Str.ofString "common"), i_common), ((Str.ofString "fraction"), i_fraction), ((Str.ofString "whole"), i_whole), ((Str.ofString "is_fraction"), i_is_fraction), ((Str.ofString "plus"), i_plus), ((Str.ofString "times"), i_times), ((Str.ofString "is_below"), i_is_below), ((Str.ofString "is_point"), i_is_point), ((Str.ofString "is_name"), i_is_name), ((Str.ofString "is_bound"), i_is_bound), ((Str.ofString "are_bounds"), i_are_bounds), ((Str.ofString "is_reading"), i_is_reading), ((Str.ofString "check_reading"), i_check_reading), ((Str.ofString "sources_of"), i_sources_of), ((Str.ofString "is_unsure"), i_is_unsure), ((Str.ofString "are_few"), i_are_few), ((Str.ofString "check_readings"), i_check_readings), ((Str.ofString "value_of"), i_value_of), ((Str.ofString "is_met_at"), i_is_met_at), ((Str.ofString "is_fulfilled"), i_is_fulfilled), ((Str.ofString "is_state"), i_is_state), ((Str.ofString "check_states"), i_check_states), ((Str.ofString "fulfils"), i_fulfils), ((Str.ofString "sources"), i_sources), ((Str.ofString "_law_pot"), i__law_pot), ((Str.ofString "_law_take"), i__law_take), ((Str.ofString "_law_of"), i__law_of), ((Str.ofString "_law_cells"), i__law_cells), ((Str.ofString "_law_common"), i__law_common), ((Str.ofString "_law_fraction"), i__law_fraction), ((Str.ofString "_law_drawn_fraction"), i__law_drawn_fraction), ((Str.ofString "_law_drawn_states"), i__law_drawn_states), ((Str.ofString "_law_is_met"), i__law_is_met), ((Str.ofString "_law_near_reading"), i__law_near_reading), ((Str.ofString "_law_right"), i__law_right), ((Str.ofString "law"), i_law)]
def cT : List (Str × Va) := [((Str.ofString "PAIR_numbers"), .int (2)), ((Str.ofString "PAIR_points"), .int (2)), ((Str.ofString "EIGHT"), .int (8)), ((Str.ofString "MOST_AXES"), .int (3)), ((Str.ofString "MOST_TICKS"), .int (13)), ((Str.ofString "MOST_READINGS"), .int (24)), ((Str.ofString "MOST_PART"), .int (9)), ((Str.ofString "MOST_BOUND"), .int (9999)), ((Str.ofString "MOST_SOURCES"), .int (6)), ((Str.ofString "MOST_UNSURE"), .int (3)), ((Str.ofString "MOST_WIDE"), .int (3)), ((Str.ofString "LETTERS"), .str (Str.ofString "abcdefghijklmnopqrstuvwxyz")), ((Str.ofString "NAMED"), .str (Str.ofString "abcdefghijklmnopqrstuvwxyz0123456789")), ((Str.ofString "PAIR_readings"), .int (2))]
noncomputable def CC (l : Nat) : Str → List Va → Hm → Res Va := callN (fun x => dT.lookup x) (fun x => cT.lookup x) l
noncomputable def GA (l : Nat) : Ev := ⟨CC l, fun x => cT.lookup x⟩
@[simp] theorem GA_call (l : Nat) : (GA l).call = CC l := rfl
@[simp] theorem v_PAIR_numbers (l : Nat) : (GA l).gv (Str.ofString "PAIR_numbers") = some (.int (2)) := by kernel_rfl
@[simp] theorem v_PAIR_points (l : Nat) : (GA l).gv (Str.ofString "PAIR_points") = some (.int (2)) := by kernel_rfl
@[simp] theorem v_EIGHT (l : Nat) : (GA l).gv (Str.ofString "EIGHT") = some (.int (8)) := by kernel_rfl
@[simp] theorem v_MOST_AXES (l : Nat) : (GA l).gv (Str.ofString "MOST_AXES") = some (.int (3)) := by kernel_rfl
@[simp] theorem v_MOST_TICKS (l : Nat) : (GA l).gv (Str.ofString "MOST_TICKS") = some (.int (13)) := by kernel_rfl
@[simp] theorem v_MOST_READINGS (l : Nat) : (GA l).gv (Str.ofString "MOST_READINGS") = some (.int (24)) := by kernel_rfl
@[simp] theorem v_MOST_PART (l : Nat) : (GA l).gv (Str.ofString "MOST_PART") = some (.int (9)) := by kernel_rfl
@[simp] theorem v_MOST_BOUND (l : Nat) : (GA l).gv (Str.ofString "MOST_BOUND") = some (.int (9999)) := by kernel_rfl
@[simp] theorem v_MOST_SOURCES (l : Nat) : (GA l).gv (Str.ofString "MOST_SOURCES") = some (.int (6)) := by kernel_rfl
@[simp] theorem v_MOST_UNSURE (l : Nat) : (GA l).gv (Str.ofString "MOST_UNSURE") = some (.int (3)) := by kernel_rfl
@[simp] theorem v_MOST_WIDE (l : Nat) : (GA l).gv (Str.ofString "MOST_WIDE") = some (.int (3)) := by kernel_rfl
@[simp] theorem v_LETTERS (l : Nat) : (GA l).gv (Str.ofString "LETTERS") = some (.str (Str.ofString "abcdefghijklmnopqrstuvwxyz")) := by kernel_rfl
@[simp] theorem v_NAMED (l : Nat) : (GA l).gv (Str.ofString "NAMED") = some (.str (Str.ofString "abcdefghijklmnopqrstuvwxyz0123456789")) := by kernel_rfl
@[simp] theorem v_PAIR_readings (l : Nat) : (GA l).gv (Str.ofString "PAIR_readings") = some (.int (2)) := by kernel_rfl
theorem n_is_whole (l : Nat) (a0 : Va) (h : Hm) : CC (l + 1) (Str.ofString "is_whole") [a0] h = handed (eSs (GA l) i_is_whole.body [some a0] h) := callN_eq (by kernel_rfl) rfl
theorem n_is_integer (l : Nat) (a0 a1 a2 : Va) (h : Hm) : CC (l + 1) (Str.ofString "is_integer") [a0, a1, a2] h = handed (eSs (GA l) i_is_integer.body [some a0, some a1, some a2] h) := callN_eq (by kernel_rfl) rfl
theorem n_is_tuple (l : Nat) (a0 a1 a2 : Va) (h : Hm) : CC (l + 1) (Str.ofString "is_tuple") [a0, a1, a2] h = handed (eSs (GA l) i_is_tuple.body [some a0, some a1, some a2] h) := callN_eq (by kernel_rfl) rfl
theorem n_common (l : Nat) (a0 a1 : Va) (h : Hm) : CC (l + 1) (Str.ofString "common") [a0, a1] h = handed (eSs (GA l) i_common.body [some a0, some a1] h) := callN_eq (by kernel_rfl) rfl
theorem n_fraction (l : Nat) (a0 a1 : Va) (h : Hm) : CC (l + 1) (Str.ofString "fraction") [a0, a1] h = handed (eSs (GA l) i_fraction.body [some a0, some a1, none] h) := callN_eq (by kernel_rfl) rfl
theorem n_whole (l : Nat) (a0 : Va) (h : Hm) : CC (l + 1) (Str.ofString "whole") [a0] h = handed (eSs (GA l) i_whole.body [some a0] h) := callN_eq (by kernel_rfl) rfl
theorem n_is_fraction (l : Nat) (a0 : Va) (h : Hm) : CC (l + 1) (Str.ofString "is_fraction") [a0] h = handed (eSs (GA l) i_is_fraction.body [some a0, none] h) := callN_eq (by kernel_rfl) rfl
theorem n_plus (l : Nat) (a0 a1 : Va) (h : Hm) : CC (l + 1) (Str.ofString "plus") [a0, a1] h = handed (eSs (GA l) i_plus.body [some a0, some a1] h) := callN_eq (by kernel_rfl) rfl
theorem n_times (l : Nat) (a0 a1 : Va) (h : Hm) : CC (l + 1) (Str.ofString "times") [a0, a1] h = handed (eSs (GA l) i_times.body [some a0, some a1] h) := callN_eq (by kernel_rfl) rfl
theorem n_is_below (l : Nat) (a0 a1 : Va) (h : Hm) : CC (l + 1) (Str.ofString "is_below") [a0, a1] h = handed (eSs (GA l) i_is_below.body [some a0, some a1] h) := callN_eq (by kernel_rfl) rfl
theorem n_is_point (l : Nat) (a0 : Va) (h : Hm) : CC (l + 1) (Str.ofString "is_point") [a0] h = handed (eSs (GA l) i_is_point.body [some a0] h) := callN_eq (by kernel_rfl) rfl
theorem n_is_name (l : Nat) (a0 : Va) (h : Hm) : CC (l + 1) (Str.ofString "is_name") [a0] h = handed (eSs (GA l) i_is_name.body [some a0, none] h) := callN_eq (by kernel_rfl) rfl
theorem n_is_bound (l : Nat) (a0 : Va) (h : Hm) : CC (l + 1) (Str.ofString "is_bound") [a0] h = handed (eSs (GA l) i_is_bound.body [some a0] h) := callN_eq (by kernel_rfl) rfl
theorem n_are_bounds (l : Nat) (a0 a1 : Va) (h : Hm) : CC (l + 1) (Str.ofString "are_bounds") [a0, a1] h = handed (eSs (GA l) i_are_bounds.body [some a0, some a1] h) := callN_eq (by kernel_rfl) rfl
theorem n_is_reading (l : Nat) (a0 : Va) (h : Hm) : CC (l + 1) (Str.ofString "is_reading") [a0] h = handed (eSs (GA l) i_is_reading.body [some a0, none, none, none, none, none, none, none, none] h) := callN_eq (by kernel_rfl) rfl
theorem n_check_reading (l : Nat) (a0 : Va) (h : Hm) : CC (l + 1) (Str.ofString "check_reading") [a0] h = handed (eSs (GA l) i_check_reading.body [some a0] h) := callN_eq (by kernel_rfl) rfl
theorem n_sources_of (l : Nat) (a0 : Va) (h : Hm) : CC (l + 1) (Str.ofString "sources_of") [a0] h = handed (eSs (GA l) i_sources_of.body [some a0, none] h) := callN_eq (by kernel_rfl) rfl
theorem n_is_unsure (l : Nat) (a0 : Va) (h : Hm) : CC (l + 1) (Str.ofString "is_unsure") [a0] h = handed (eSs (GA l) i_is_unsure.body [some a0] h) := callN_eq (by kernel_rfl) rfl
theorem n_are_few (l : Nat) (a0 : Va) (h : Hm) : CC (l + 1) (Str.ofString "are_few") [a0] h = handed (eSs (GA l) i_are_few.body [some a0, none] h) := callN_eq (by kernel_rfl) rfl
theorem n_check_readings (l : Nat) (a0 : Va) (h : Hm) : CC (l + 1) (Str.ofString "check_readings") [a0] h = handed (eSs (GA l) i_check_readings.body [some a0, none] h) := callN_eq (by kernel_rfl) rfl
theorem n_value_of (l : Nat) (a0 a1 a2 : Va) (h : Hm) : CC (l + 1) (Str.ofString "value_of") [a0, a1, a2] h = handed (eSs (GA l) i_value_of.body [some a0, some a1, some a2] h) := callN_eq (by kernel_rfl) rfl
theorem n_is_met_at (l : Nat) (a0 a1 : Va) (h : Hm) : CC (l + 1) (Str.ofString "is_met_at") [a0, a1] h = handed (eSs (GA l) i_is_met_at.body [some a0, some a1, none, none, none, none, none, none] h) := callN_eq (by kernel_rfl) rfl
theorem n_is_fulfilled (l : Nat) (a0 a1 : Va) (h : Hm) : CC (l + 1) (Str.ofString "is_fulfilled") [a0, a1] h = handed (eSs (GA l) i_is_fulfilled.body [some a0, some a1, none] h) := callN_eq (by kernel_rfl) rfl
theorem n_is_state (l : Nat) (a0 a1 a2 : Va) (h : Hm) : CC (l + 1) (Str.ofString "is_state") [a0, a1, a2] h = handed (eSs (GA l) i_is_state.body [some a0, some a1, some a2, none] h) := callN_eq (by kernel_rfl) rfl
theorem n_check_states (l : Nat) (a0 a1 : Va) (h : Hm) : CC (l + 1) (Str.ofString "check_states") [a0, a1] h = handed (eSs (GA l) i_check_states.body [some a0, some a1, none] h) := callN_eq (by kernel_rfl) rfl
theorem n_fulfils (l : Nat) (a0 a1 : Va) (h : Hm) : CC (l + 1) (Str.ofString "fulfils") [a0, a1] h = handed (eSs (GA l) i_fulfils.body [some a0, some a1] h) := callN_eq (by kernel_rfl) rfl
theorem n_sources (l : Nat) (a0 : Va) (h : Hm) : CC (l + 1) (Str.ofString "sources") [a0] h = handed (eSs (GA l) i_sources.body [some a0] h) := callN_eq (by kernel_rfl) rfl
theorem n__law_pot (l : Nat) (a0 a1 : Va) (h : Hm) : CC (l + 1) (Str.ofString "_law_pot") [a0, a1] h = handed (eSs (GA l) i__law_pot.body [some a0, some a1, none, none, none] h) := callN_eq (by kernel_rfl) rfl
theorem n__law_take (l : Nat) (a0 a1 : Va) (h : Hm) : CC (l + 1) (Str.ofString "_law_take") [a0, a1] h = handed (eSs (GA l) i__law_take.body [some a0, some a1, none, none, none] h) := callN_eq (by kernel_rfl) rfl
theorem n__law_of (l : Nat) (a0 a1 : Va) (h : Hm) : CC (l + 1) (Str.ofString "_law_of") [a0, a1] h = handed (eSs (GA l) i__law_of.body [some a0, some a1] h) := callN_eq (by kernel_rfl) rfl
theorem n__law_cells (l : Nat) (a0 a1 : Va) (h : Hm) : CC (l + 1) (Str.ofString "_law_cells") [a0, a1] h = handed (eSs (GA l) i__law_cells.body [some a0, some a1] h) := callN_eq (by kernel_rfl) rfl
theorem n__law_common (l : Nat) (a0 a1 : Va) (h : Hm) : CC (l + 1) (Str.ofString "_law_common") [a0, a1] h = handed (eSs (GA l) i__law_common.body [some a0, some a1] h) := callN_eq (by kernel_rfl) rfl
theorem n__law_fraction (l : Nat) (a0 a1 : Va) (h : Hm) : CC (l + 1) (Str.ofString "_law_fraction") [a0, a1] h = handed (eSs (GA l) i__law_fraction.body [some a0, some a1, none] h) := callN_eq (by kernel_rfl) rfl
theorem n__law_drawn_fraction (l : Nat) (a0 a1 : Va) (h : Hm) : CC (l + 1) (Str.ofString "_law_drawn_fraction") [a0, a1] h = handed (eSs (GA l) i__law_drawn_fraction.body [some a0, some a1] h) := callN_eq (by kernel_rfl) rfl
theorem n__law_drawn_states (l : Nat) (a0 a1 a2 : Va) (h : Hm) : CC (l + 1) (Str.ofString "_law_drawn_states") [a0, a1, a2] h = handed (eSs (GA l) i__law_drawn_states.body [some a0, some a1, some a2, none, none] h) := callN_eq (by kernel_rfl) rfl
theorem n__law_is_met (l : Nat) (a0 a1 : Va) (h : Hm) : CC (l + 1) (Str.ofString "_law_is_met") [a0, a1] h = handed (eSs (GA l) i__law_is_met.body [some a0, some a1, none, none, none, none, none, none] h) := callN_eq (by kernel_rfl) rfl
theorem n__law_near_reading (l : Nat) (a0 a1 : Va) (h : Hm) : CC (l + 1) (Str.ofString "_law_near_reading") [a0, a1] h = handed (eSs (GA l) i__law_near_reading.body [some a0, some a1, none, none, none, none, none, none, none, none, none, none, none, none, none] h) := callN_eq (by kernel_rfl) rfl
theorem n__law_right (l : Nat) (a0 : Va) (h : Hm) : CC (l + 1) (Str.ofString "_law_right") [a0] h = handed (eSs (GA l) i__law_right.body [some a0, none, none, none, none, none, none, none] h) := callN_eq (by kernel_rfl) rfl
theorem n_law (l : Nat) (a0 : Va) (h : Hm) : CC (l + 1) (Str.ofString "law") [a0] h = handed (eSs (GA l) i_law.body [some a0, none] h) := callN_eq (by kernel_rfl) rfl
end Vy
set_option maxHeartbeats 0
namespace Vy
open PySem L2
def top (i : Nat) : Stmt := PySem.Challenge.pw_allcoursesfit_k14_whole_fulfils_and_sour.main.body.getD i (.Pass ⟨0, 0, 0, 0⟩)
def q_is_whole : Fn := ⟨i_is_whole, [(Str.ofString "value")], ⟨((Str.ofString "is_whole"), none), (Str.ofString "is_whole"), (Str.ofString "is_whole"), defArgs (top 6), defBody (top 6), defScope (top 6), [], []⟩⟩
def q_is_integer : Fn := ⟨i_is_integer, [(Str.ofString "value"), (Str.ofString "low"), (Str.ofString "high")], ⟨((Str.ofString "is_integer"), none), (Str.ofString "is_integer"), (Str.ofString "is_integer"), defArgs (top 7), defBody (top 7), defScope (top 7), [], []⟩⟩
def q_is_tuple : Fn := ⟨i_is_tuple, [(Str.ofString "value"), (Str.ofString "least"), (Str.ofString "most")], ⟨((Str.ofString "is_tuple"), none), (Str.ofString "is_tuple"), (Str.ofString "is_tuple"), defArgs (top 8), defBody (top 8), defScope (top 8), [], []⟩⟩
def q_common : Fn := ⟨i_common, [(Str.ofString "one"), (Str.ofString "other")], ⟨((Str.ofString "common"), none), (Str.ofString "common"), (Str.ofString "common"), defArgs (top 11), defBody (top 11), defScope (top 11), [], []⟩⟩
def q_fraction : Fn := ⟨i_fraction, [(Str.ofString "top"), (Str.ofString "bottom"), (Str.ofString "by")], ⟨((Str.ofString "fraction"), none), (Str.ofString "fraction"), (Str.ofString "fraction"), defArgs (top 12), defBody (top 12), defScope (top 12), [], []⟩⟩
def q_whole : Fn := ⟨i_whole, [(Str.ofString "number")], ⟨((Str.ofString "whole"), none), (Str.ofString "whole"), (Str.ofString "whole"), defArgs (top 13), defBody (top 13), defScope (top 13), [], []⟩⟩
def q_is_fraction : Fn := ⟨i_is_fraction, [(Str.ofString "value"), (Str.ofString "part")], ⟨((Str.ofString "is_fraction"), none), (Str.ofString "is_fraction"), (Str.ofString "is_fraction"), defArgs (top 14), defBody (top 14), defScope (top 14), [], []⟩⟩
def q_plus : Fn := ⟨i_plus, [(Str.ofString "one"), (Str.ofString "other")], ⟨((Str.ofString "plus"), none), (Str.ofString "plus"), (Str.ofString "plus"), defArgs (top 15), defBody (top 15), defScope (top 15), [], []⟩⟩
def q_times : Fn := ⟨i_times, [(Str.ofString "one"), (Str.ofString "other")], ⟨((Str.ofString "times"), none), (Str.ofString "times"), (Str.ofString "times"), defArgs (top 16), defBody (top 16), defScope (top 16), [], []⟩⟩
def q_is_below : Fn := ⟨i_is_below, [(Str.ofString "one"), (Str.ofString "other")], ⟨((Str.ofString "is_below"), none), (Str.ofString "is_below"), (Str.ofString "is_below"), defArgs (top 17), defBody (top 17), defScope (top 17), [], []⟩⟩
def q_is_point : Fn := ⟨i_is_point, [(Str.ofString "value")], ⟨((Str.ofString "is_point"), none), (Str.ofString "is_point"), (Str.ofString "is_point"), defArgs (top 20), defBody (top 20), defScope (top 20), [], []⟩⟩
def q_is_name : Fn := ⟨i_is_name, [(Str.ofString "value"), (Str.ofString "sign")], ⟨((Str.ofString "is_name"), none), (Str.ofString "is_name"), (Str.ofString "is_name"), defArgs (top 34), defBody (top 34), defScope (top 34), [], []⟩⟩
def q_is_bound : Fn := ⟨i_is_bound, [(Str.ofString "value")], ⟨((Str.ofString "is_bound"), none), (Str.ofString "is_bound"), (Str.ofString "is_bound"), defArgs (top 35), defBody (top 35), defScope (top 35), [], []⟩⟩
def q_are_bounds : Fn := ⟨i_are_bounds, [(Str.ofString "low"), (Str.ofString "high")], ⟨((Str.ofString "are_bounds"), none), (Str.ofString "are_bounds"), (Str.ofString "are_bounds"), defArgs (top 36), defBody (top 36), defScope (top 36), [], []⟩⟩
def q_is_reading : Fn := ⟨i_is_reading, [(Str.ofString "value"), (Str.ofString "source"), (Str.ofString "axis"), (Str.ofString "first"), (Str.ofString "last"), (Str.ofString "p"), (Str.ofString "q"), (Str.ofString "low"), (Str.ofString "high")], ⟨((Str.ofString "is_reading"), none), (Str.ofString "is_reading"), (Str.ofString "is_reading"), defArgs (top 37), defBody (top 37), defScope (top 37), [], []⟩⟩
def q_check_reading : Fn := ⟨i_check_reading, [(Str.ofString "value")], ⟨((Str.ofString "check_reading"), none), (Str.ofString "check_reading"), (Str.ofString "check_reading"), defArgs (top 38), defBody (top 38), defScope (top 38), [], []⟩⟩
def q_sources_of : Fn := ⟨i_sources_of, [(Str.ofString "readings"), (Str.ofString "reading")], ⟨((Str.ofString "sources_of"), none), (Str.ofString "sources_of"), (Str.ofString "sources_of"), defArgs (top 39), defBody (top 39), defScope (top 39), [], []⟩⟩
def q_is_unsure : Fn := ⟨i_is_unsure, [(Str.ofString "reading")], ⟨((Str.ofString "is_unsure"), none), (Str.ofString "is_unsure"), (Str.ofString "is_unsure"), defArgs (top 40), defBody (top 40), defScope (top 40), [], []⟩⟩
def q_are_few : Fn := ⟨i_are_few, [(Str.ofString "readings"), (Str.ofString "reading")], ⟨((Str.ofString "are_few"), none), (Str.ofString "are_few"), (Str.ofString "are_few"), defArgs (top 41), defBody (top 41), defScope (top 41), [], []⟩⟩
def q_check_readings : Fn := ⟨i_check_readings, [(Str.ofString "value"), (Str.ofString "reading")], ⟨((Str.ofString "check_readings"), none), (Str.ofString "check_readings"), (Str.ofString "check_readings"), defArgs (top 42), defBody (top 42), defScope (top 42), [], []⟩⟩
def q_value_of : Fn := ⟨i_value_of, [(Str.ofString "p"), (Str.ofString "q"), (Str.ofString "point")], ⟨((Str.ofString "value_of"), none), (Str.ofString "value_of"), (Str.ofString "value_of"), defArgs (top 43), defBody (top 43), defScope (top 43), [], []⟩⟩
def q_is_met_at : Fn := ⟨i_is_met_at, [(Str.ofString "reading"), (Str.ofString "state"), (Str.ofString "axis"), (Str.ofString "p"), (Str.ofString "q"), (Str.ofString "low"), (Str.ofString "high"), (Str.ofString "value")], ⟨((Str.ofString "is_met_at"), none), (Str.ofString "is_met_at"), (Str.ofString "is_met_at"), defArgs (top 44), defBody (top 44), defScope (top 44), [], []⟩⟩
def q_is_fulfilled : Fn := ⟨i_is_fulfilled, [(Str.ofString "reading"), (Str.ofString "states"), (Str.ofString "state")], ⟨((Str.ofString "is_fulfilled"), none), (Str.ofString "is_fulfilled"), (Str.ofString "is_fulfilled"), defArgs (top 45), defBody (top 45), defScope (top 45), [], []⟩⟩
def q_is_state : Fn := ⟨i_is_state, [(Str.ofString "value"), (Str.ofString "least"), (Str.ofString "most"), (Str.ofString "point")], ⟨((Str.ofString "is_state"), none), (Str.ofString "is_state"), (Str.ofString "is_state"), defArgs (top 46), defBody (top 46), defScope (top 46), [], []⟩⟩
def q_check_states : Fn := ⟨i_check_states, [(Str.ofString "reading"), (Str.ofString "value"), (Str.ofString "state")], ⟨((Str.ofString "check_states"), none), (Str.ofString "check_states"), (Str.ofString "check_states"), defArgs (top 47), defBody (top 47), defScope (top 47), [], []⟩⟩
def q_fulfils : Fn := ⟨i_fulfils, [(Str.ofString "reading"), (Str.ofString "states")], ⟨((Str.ofString "fulfils"), none), (Str.ofString "fulfils"), (Str.ofString "fulfils"), defArgs (top 48), defBody (top 48), defScope (top 48), [], []⟩⟩
def q_sources : Fn := ⟨i_sources, [(Str.ofString "readings")], ⟨((Str.ofString "sources"), none), (Str.ofString "sources"), (Str.ofString "sources"), defArgs (top 49), defBody (top 49), defScope (top 49), [], []⟩⟩
def q__law_pot : Fn := ⟨i__law_pot, [(Str.ofString "script"), (Str.ofString "place"), (Str.ofString "cell"), (Str.ofString "own"), (Str.ofString "small")], ⟨((Str.ofString "_law_pot"), none), (Str.ofString "_law_pot"), (Str.ofString "_law_pot"), defArgs (top 51), defBody (top 51), defScope (top 51), [], []⟩⟩
def q__law_take : Fn := ⟨i__law_take, [(Str.ofString "pot"), (Str.ofString "upto"), (Str.ofString "prime"), (Str.ofString "blend"), (Str.ofString "digit")], ⟨((Str.ofString "_law_take"), none), (Str.ofString "_law_take"), (Str.ofString "_law_take"), defArgs (top 52), defBody (top 52), defScope (top 52), [], []⟩⟩
def q__law_of : Fn := ⟨i__law_of, [(Str.ofString "pot"), (Str.ofString "some")], ⟨((Str.ofString "_law_of"), none), (Str.ofString "_law_of"), (Str.ofString "_law_of"), defArgs (top 53), defBody (top 53), defScope (top 53), [], []⟩⟩
def q__law_cells : Fn := ⟨i__law_cells, [(Str.ofString "script"), (Str.ofString "limit")], ⟨((Str.ofString "_law_cells"), none), (Str.ofString "_law_cells"), (Str.ofString "_law_cells"), defArgs (top 54), defBody (top 54), defScope (top 54), [], []⟩⟩
def q__law_common : Fn := ⟨i__law_common, [(Str.ofString "one"), (Str.ofString "other")], ⟨((Str.ofString "_law_common"), none), (Str.ofString "_law_common"), (Str.ofString "_law_common"), defArgs (top 55), defBody (top 55), defScope (top 55), [], []⟩⟩
def q__law_fraction : Fn := ⟨i__law_fraction, [(Str.ofString "top"), (Str.ofString "bottom"), (Str.ofString "part")], ⟨((Str.ofString "_law_fraction"), none), (Str.ofString "_law_fraction"), (Str.ofString "_law_fraction"), defArgs (top 56), defBody (top 56), defScope (top 56), [], []⟩⟩
def q__law_drawn_fraction : Fn := ⟨i__law_drawn_fraction, [(Str.ofString "pot"), (Str.ofString "wide")], ⟨((Str.ofString "_law_drawn_fraction"), none), (Str.ofString "_law_drawn_fraction"), (Str.ofString "_law_drawn_fraction"), defArgs (top 57), defBody (top 57), defScope (top 57), [], []⟩⟩
def q__law_drawn_states : Fn := ⟨i__law_drawn_states, [(Str.ofString "pot"), (Str.ofString "many"), (Str.ofString "axes"), (Str.ofString "tick"), (Str.ofString "axis")], ⟨((Str.ofString "_law_drawn_states"), none), (Str.ofString "_law_drawn_states"), (Str.ofString "_law_drawn_states"), defArgs (top 58), defBody (top 58), defScope (top 58), [], []⟩⟩
def q__law_is_met : Fn := ⟨i__law_is_met, [(Str.ofString "reading"), (Str.ofString "state"), (Str.ofString "a"), (Str.ofString "b"), (Str.ofString "c"), (Str.ofString "d"), (Str.ofString "worth"), (Str.ofString "bottom")], ⟨((Str.ofString "_law_is_met"), none), (Str.ofString "_law_is_met"), (Str.ofString "_law_is_met"), defArgs (top 59), defBody (top 59), defScope (top 59), [], []⟩⟩
def q__law_near_reading : Fn := ⟨i__law_near_reading, [(Str.ofString "pot"), (Str.ofString "states"), (Str.ofString "first"), (Str.ofString "last"), (Str.ofString "axis"), (Str.ofString "p"), (Str.ofString "q"), (Str.ofString "a"), (Str.ofString "b"), (Str.ofString "c"), (Str.ofString "d"), (Str.ofString "worth"), (Str.ofString "low"), (Str.ofString "high"), (Str.ofString "cut")], ⟨((Str.ofString "_law_near_reading"), none), (Str.ofString "_law_near_reading"), (Str.ofString "_law_near_reading"), defArgs (top 60), defBody (top 60), defScope (top 60), [], []⟩⟩
def q__law_right : Fn := ⟨i__law_right, [(Str.ofString "pot"), (Str.ofString "states"), (Str.ofString "readings"), (Str.ofString "reading"), (Str.ofString "exact"), (Str.ofString "due"), (Str.ofString "lap"), (Str.ofString "state")], ⟨((Str.ofString "_law_right"), none), (Str.ofString "_law_right"), (Str.ofString "_law_right"), defArgs (top 61), defBody (top 61), defScope (top 61), [], []⟩⟩
def q_law : Fn := ⟨i_law, [(Str.ofString "script"), (Str.ofString "place")], ⟨((Str.ofString "law"), none), (Str.ofString "law"), (Str.ofString "law"), defArgs (top 62), defBody (top 62), defScope (top 62), [], []⟩⟩
def tF : List Fn := [q_is_whole, q_is_integer, q_is_tuple, q_common, q_fraction, q_whole, q_is_fraction, q_plus, q_times, q_is_below, q_is_point, q_is_name, q_is_bound, q_are_bounds, q_is_reading, q_check_reading, q_sources_of, q_is_unsure, q_are_few, q_check_readings, q_value_of, q_is_met_at, q_is_fulfilled, q_is_state, q_check_states, q_fulfils, q_sources, q__law_pot, q__law_take, q__law_of, q__law_cells, q__law_common, q__law_fraction, q__law_drawn_fraction, q__law_drawn_states, q__law_is_met, q__law_near_reading, q__law_right, q_law]
def tC : List (Str × Cn) := [((Str.ofString "PAIR_numbers"), .int (2)), ((Str.ofString "PAIR_points"), .int (2)), ((Str.ofString "EIGHT"), .int (8)), ((Str.ofString "MOST_AXES"), .int (3)), ((Str.ofString "MOST_TICKS"), .int (13)), ((Str.ofString "MOST_READINGS"), .int (24)), ((Str.ofString "MOST_PART"), .int (9)), ((Str.ofString "MOST_BOUND"), .int (9999)), ((Str.ofString "MOST_SOURCES"), .int (6)), ((Str.ofString "MOST_UNSURE"), .int (3)), ((Str.ofString "MOST_WIDE"), .int (3)), ((Str.ofString "LETTERS"), .str (Str.ofString "abcdefghijklmnopqrstuvwxyz")), ((Str.ofString "NAMED"), .str (Str.ofString "abcdefghijklmnopqrstuvwxyz0123456789")), ((Str.ofString "PAIR_readings"), .int (2))]
def tB : List Str := [(Str.ofString "abs"), (Str.ofString "all"), (Str.ofString "any"), (Str.ofString "bool"), (Str.ofString "int"), (Str.ofString "isinstance"), (Str.ofString "len"), (Str.ofString "list"), (Str.ofString "max"), (Str.ofString "min"), (Str.ofString "range"), (Str.ofString "repr"), (Str.ofString "set"), (Str.ofString "sorted"), (Str.ofString "str"), (Str.ofString "sum"), (Str.ofString "tuple")]
def tL : List Str := [(Str.ofString "FitError"), (Str.ofString "BadReading"), (Str.ofString "BadReadings"), (Str.ofString "BadStates"), (Str.ofString "is_whole"), (Str.ofString "is_integer"), (Str.ofString "is_tuple"), (Str.ofString "PAIR_numbers"), (Str.ofString "common"), (Str.ofString "fraction"), (Str.ofString "whole"), (Str.ofString "is_fraction"), (Str.ofString "plus"), (Str.ofString "times"), (Str.ofString "is_below"), (Str.ofString "PAIR_points"), (Str.ofString "is_point"), (Str.ofString "EIGHT"), (Str.ofString "MOST_AXES"), (Str.ofString "MOST_TICKS"), (Str.ofString "MOST_READINGS"), (Str.ofString "MOST_PART"), (Str.ofString "MOST_BOUND"), (Str.ofString "MOST_SOURCES"), (Str.ofString "MOST_UNSURE"), (Str.ofString "MOST_WIDE"), (Str.ofString "LETTERS"), (Str.ofString "NAMED"), (Str.ofString "PAIR_readings"), (Str.ofString "is_name"), (Str.ofString "is_bound"), (Str.ofString "are_bounds"), (Str.ofString "is_reading"), (Str.ofString "check_reading"), (Str.ofString "sources_of"), (Str.ofString "is_unsure"), (Str.ofString "are_few"), (Str.ofString "check_readings"), (Str.ofString "value_of"), (Str.ofString "is_met_at"), (Str.ofString "is_fulfilled"), (Str.ofString "is_state"), (Str.ofString "check_states"), (Str.ofString "fulfils"), (Str.ofString "sources"), (Str.ofString "_law_pot"), (Str.ofString "_law_take"), (Str.ofString "_law_of"), (Str.ofString "_law_cells"), (Str.ofString "_law_common"), (Str.ofString "_law_fraction"), (Str.ofString "_law_drawn_fraction"), (Str.ofString "_law_drawn_states"), (Str.ofString "_law_is_met"), (Str.ofString "_law_near_reading"), (Str.ofString "_law_right")]
def lawIx : Nat := 62
theorem tChk : (tF.all (fnB (tbOf tF (tC.map fun p => (p.1, p.2.va)) tB))) = true := by kernel_rfl
theorem tNod : (tF.map (·.dd.name)).Nodup := by decide +kernel
theorem defs_D : defsOf tF = (fun x => dT.lookup x) := by kernel_rfl
theorem gv_D : gvOf (tC.map fun p => (p.1, p.2.va)) = (fun x => cT.lookup x) := by kernel_rfl
end Vy
set_option maxHeartbeats 0
namespace Vy
open PySem PySem.Spec PyProof.Rows L2
abbrev RW0 : PySem.W.OpenRow := PySem.W.OpenLaw.row PySem.Challenge.rw_allcoursesfit_k14_whole_fulfils_and_sour
abbrev hk0 : PySem.W.Hook := hookG 4 (faOf tF tC tB) (tF.map (·.dd)) (exOf tC)
theorem run0 (w : World) : HandSHeadRun.RunEq RW0 (PySem.W.view RW0.prog [lawIx]) hk0 (obG 4 (faOf tF tC tB) (tF.map (·.dd)) (exOf tC)) 9000 tL w := by
  intro os
  kernel_rfl
theorem memL : q_law ∈ tF := by
  unfold tF
  repeat (first | exact List.mem_cons_self | apply List.mem_cons_of_mem)
end Vy
section
open PySem PySem.W PySem.Calls PyProof.Rows
theorem Vy.hdf0 : (HandSHeadRun.topDef Vy.RW0.prog Vy.lawIx).params.defaults = [] := by kernel_rfl
theorem Vy.hps0 : Vy.q_law.ps = [Str.ofString "script"] := by kernel_rfl
theorem Vy.hnm0 : (HandSHeadRun.topDef Vy.RW0.prog Vy.lawIx).name = Vy.q_law.dd.name := by kernel_rfl
theorem Vy.room0 : L2.Room (20+1) callerA := ⟨rfl, by decide, by decide⟩
set_option maxHeartbeats 400000
theorem Vy.b1 : opening Vy.RW0.prog = plainProg Vy.RW0.prog.main.scope.names := by kernel_rfl
theorem Vy.b2 : ∀ s, fenceModules? Vy.RW0.prog s = some s := fun s => by kernel_rfl
theorem Vy.b3 : defOf (view Vy.RW0.prog [Vy.lawIx]) Vy.RW0.name = some (HandSHeadRun.topDef Vy.RW0.prog Vy.lawIx, []) := by kernel_rfl
theorem Vy.b4 : Vy.RW0.prog.theDef Vy.RW0.name = some ((HandSHeadRun.topDef Vy.RW0.prog Vy.lawIx).params, (HandSHeadRun.topDef Vy.RW0.prog Vy.lawIx).body, (HandSHeadRun.topDef Vy.RW0.prog Vy.lawIx).scope) := by kernel_rfl
theorem Vy.b5 : kwWritten? (HandSHeadRun.topDef Vy.RW0.prog Vy.lawIx).params.kwonlyargs (HandSHeadRun.topDef Vy.RW0.prog Vy.lawIx).params.kw_defaults = some [] := by kernel_rfl
theorem Vy.b6 : (!Vy.RW0.writes || Vy.RW0.records.isEmpty) = true := by rfl
theorem Vy.b7 : Vy.RW0.wellSaid = true := by decide +kernel
theorem Vy.b8 : (chainsOk (view Vy.RW0.prog [Vy.lawIx]) && opensWell Vy.RW0.prog && (frees Vy.RW0.toRowW && Vy.RW0.within.isEmpty)) = true := by decide +kernel
theorem Vy.b9 : Vy.RW0.prog.bare := ⟨rfl, rfl, rfl, rfl, rfl, by decide +kernel⟩
theorem Vy.b10 : Vy.RW0.toRowW.promised := by w_witness2
end
set_option maxHeartbeats 200000
/-! hulls: the chain of sorted pairs -/
namespace Hu
abbrev Pr := Int × Int
def turn (a b c : Pr) : Int := (b.1 - a.1) * (c.2 - a.2) - (b.2 - a.2) * (c.1 - a.1)
def lt (p q : Pr) : Prop := p.1 < q.1 ∨ (p.1 = q.1 ∧ p.2 < q.2)
def le (p q : Pr) : Prop := p.1 < q.1 ∨ (p.1 = q.1 ∧ p.2 ≤ q.2)
instance (p q : Pr) : Decidable (lt p q) := by unfold lt; infer_instance
instance (p q : Pr) : Decidable (le p q) := by unfold le; infer_instance
theorem le_refl (p : Pr) : le p p := .inr ⟨rfl, Int.le_refl _⟩
theorem lt_le {p q : Pr} (h : lt p q) : le p q := by unfold lt at h; unfold le; omega
theorem lt_trans {p q r : Pr} (h : lt p q) (g : lt q r) : lt p r := by unfold lt at *; omega
theorem le_trans {p q r : Pr} (h : le p q) (g : le q r) : le p r := by unfold le at *; omega
theorem lt_of_le_lt {p q r : Pr} (h : le p q) (g : lt q r) : lt p r := by unfold lt at *; unfold le at *; omega
theorem le_antisymm {p q : Pr} (h : le p q) (g : le q p) : p = q := by unfold le at *; exact Prod.ext (by omega) (by omega)
theorem lt_irrefl {p : Pr} (h : lt p p) : False := by unfold lt at h; omega
theorem le_or (p q : Pr) : le p q ∨ lt q p := by unfold lt le; omega
theorem eq_or_lt {p q : Pr} (h : le p q) : p = q ∨ lt p q := by
  unfold le at h
  unfold lt
  by_cases e : p = q
  · exact .inl e
  · right
    have : ¬ (p.1 = q.1 ∧ p.2 = q.2) := fun z => e (Prod.ext z.1 z.2)
    omega
/-! the order of vectors by their angle -/
def cr (u v : Pr) : Int := u.1 * v.2 - u.2 * v.1
def pos (u : Pr) : Prop := 0 < u.1 ∨ (u.1 = 0 ∧ 0 < u.2)
def nng (u : Pr) : Prop := 0 < u.1 ∨ (u.1 = 0 ∧ 0 ≤ u.2)
theorem key (x y z : Pr) : y.1 * cr x z = x.1 * cr y z + z.1 * cr x y := by unfold cr; grind
theorem ang {x y z : Pr} (hx : nng x) (hy : pos y) (hz : nng z) (h1 : 0 ≤ cr x y) (h2 : 0 ≤ cr y z) : 0 ≤ cr x z := by
  have k := key x y z
  have hx0 : 0 ≤ x.1 := by unfold nng at hx; omega
  have hz0 : 0 ≤ z.1 := by unfold nng at hz; omega
  rcases hy with hy | ⟨hy1, hy2⟩
  · have a := Int.mul_nonneg hx0 h2
    have b := Int.mul_nonneg hz0 h1
    have c : 0 ≤ y.1 * cr x z := by omega
    exact Int.nonneg_of_mul_nonneg_right c hy
  · have e : cr y z = - (y.2 * z.1) := by unfold cr; rw [hy1]; simp
    have z1 : z.1 = 0 := by
      rcases Int.lt_or_le 0 z.1 with h | h
      · have := Int.mul_pos hy2 h
        omega
      · omega
    have hz2 : 0 ≤ z.2 := by unfold nng at hz; omega
    have e2 : cr x z = x.1 * z.2 := by unfold cr; rw [z1]; simp
    rw [e2]
    exact Int.mul_nonneg hx0 hz2
theorem ang1 {x y z : Pr} (hx : pos x) (hy : pos y) (hz : pos z) (h1 : 0 < cr x y) (h2 : 0 ≤ cr y z) : 0 < cr x z := by
  have k := key x y z
  have hx0 : 0 ≤ x.1 := by unfold pos at hx; omega
  have hz0 : 0 ≤ z.1 := by unfold pos at hz; omega
  have hy0 : 0 ≤ y.1 := by unfold pos at hy; omega
  have hx1 : 0 < x.1 := by
    rcases hx with h | ⟨e1, e2⟩
    · exact h
    · have e : cr x y = - (x.2 * y.1) := by unfold cr; rw [e1]; simp
      have := Int.mul_nonneg (Int.le_of_lt e2) hy0
      omega
  rcases hy with hy | ⟨hy1, hy2⟩
  · have a := Int.mul_nonneg hx0 h2
    rcases hz with hz | ⟨z1, z2⟩
    · have b := Int.mul_pos hz h1
      have c : 0 < y.1 * cr x z := by omega
      exact Int.pos_of_mul_pos_right c hy
    · have e2 : cr x z = x.1 * z.2 := by unfold cr; rw [z1]; simp
      rw [e2]
      exact Int.mul_pos hx1 z2
  · have e : cr y z = - (y.2 * z.1) := by unfold cr; rw [hy1]; simp
    have z1 : z.1 = 0 := by
      rcases Int.lt_or_le 0 z.1 with h | h
      · have := Int.mul_pos hy2 h
        omega
      · omega
    have hz2 : 0 < z.2 := by unfold pos at hz; omega
    have e2 : cr x z = x.1 * z.2 := by unfold cr; rw [z1]; simp
    rw [e2]
    exact Int.mul_pos hx1 hz2
theorem ang2 {x y z : Pr} (hx : pos x) (hy : pos y) (hz : pos z) (h1 : 0 ≤ cr x y) (h2 : 0 < cr y z) : 0 < cr x z := by
  have k := key x y z
  have hx0 : 0 ≤ x.1 := by unfold pos at hx; omega
  have hz0 : 0 ≤ z.1 := by unfold pos at hz; omega
  have hy1 : 0 < y.1 := by
    rcases hy with h | ⟨e1, e2⟩
    · exact h
    · have e : cr y z = - (y.2 * z.1) := by unfold cr; rw [e1]; simp
      have := Int.mul_nonneg (Int.le_of_lt e2) hz0
      omega
  have b := Int.mul_nonneg hz0 h1
  have hx1 : 0 < x.1 := by
    rcases hx with h | ⟨e1, e2⟩
    · exact h
    · have e : cr x y = - (x.2 * y.1) := by unfold cr; rw [e1]; simp
      have := Int.mul_pos e2 hy1
      omega
  have a := Int.mul_pos hx1 h2
  have c : 0 < y.1 * cr x z := by omega
  exact Int.pos_of_mul_pos_right c hy1
def sb (b a : Pr) : Pr := (b.1 - a.1, b.2 - a.2)
theorem turn_cr (a b c : Pr) : turn a b c = cr (sb b a) (sb c a) := rfl
theorem turn_cr2 (a b c : Pr) : turn a b c = cr (sb b a) (sb c b) := by unfold turn cr sb; grind
theorem pos_of {a b : Pr} (h : lt a b) : pos (sb b a) := by unfold lt at h; unfold pos sb; simp; omega
theorem nng_of {a b : Pr} (h : le a b) : nng (sb b a) := by unfold le at h; unfold nng sb; simp; omega
/-! an edge: all points on its left, those on its line between its ends -/
def Btw (a b c : Pr) : Prop := (le a c ∧ le c b) ∨ (le b c ∧ le c a)
def Edge (D : List Pr) (a b : Pr) : Prop := ∀ c ∈ D, 0 ≤ turn a b c ∧ (turn a b c = 0 → Btw a b c)
def popF (p : Pr) : List Pr → List Pr
  | b :: a :: r => if 0 < turn a b p then b :: a :: r else popF p (a :: r)
  | r => r
def halfF : List Pr → List Pr → List Pr
  | [], f => f
  | p :: l, f => halfF l (p :: popF p f)
/-- the corners found, the last one first -/
def Good (D : List Pr) : List Pr → Prop
  | [] => False
  | [a] => a ∈ D ∧ ∀ c ∈ D, le a c
  | b :: a :: r => lt a b ∧ Edge D a b ∧ b ∈ D ∧ (match r with
    | z :: _ => 0 < turn z a b
    | [] => True) ∧ Good D (a :: r)
theorem good_mem {D : List Pr} {b : Pr} : ∀ {r : List Pr}, Good D (b :: r) → b ∈ D
  | [], h => h.1
  | _ :: _, h => h.2.2.1
/-- a point more, beyond the last edge -/
theorem lift {D : List Pr} {p : Pr} : ∀ (r : List Pr) (a b : Pr), Good D (b :: a :: r) → lt b p → 0 < turn a b p → Good (p :: D) (b :: a :: r)
  | [], a, b, h, hp, ht => by
    obtain ⟨h1, h2, h3, _, h4⟩ := h
    refine ⟨h1, fun c hc => ?_, List.mem_cons_of_mem _ h3, trivial, List.mem_cons_of_mem _ h4.1, fun c hc => ?_⟩
    · rcases List.mem_cons.mp hc with rfl | hc
      · exact ⟨Int.le_of_lt ht, fun e => by omega⟩
      · exact h2 c hc
    · rcases List.mem_cons.mp hc with rfl | hc
      · exact lt_le (lt_trans h1 hp)
      · exact h4.2 c hc
  | z :: r, a, b, h, hp, ht => by
    obtain ⟨h1, h2, h3, h5, h4⟩ := h
    have hza : lt z a := h4.1
    have ht2 : 0 < turn z a p := by
      have e1 : turn z a p = cr (sb a z) (sb b a) + cr (sb a z) (sb p b) := by unfold turn cr sb; grind
      have e2 := turn_cr2 z a b
      have e3 := turn_cr2 a b p
      have := ang1 (pos_of hza) (pos_of h1) (pos_of hp) (by rw [← e2]; exact h5) (by rw [← e3]; exact Int.le_of_lt ht)
      have h5' : 0 < turn z a b := h5
      omega
    refine ⟨h1, fun c hc => ?_, List.mem_cons_of_mem _ h3, h5, lift r z a h4 (lt_trans h1 hp) ht2⟩
    rcases List.mem_cons.mp hc with rfl | hc
    · exact ⟨Int.le_of_lt ht, fun e => by omega⟩
    · exact h2 c hc
theorem turn_end (t p : Pr) : turn t p p = 0 := by unfold turn; grind
theorem turn_start (t p : Pr) : turn t p t = 0 := by unfold turn; grind
theorem step {D : List Pr} {p : Pr} (hp : ∀ c ∈ D, lt c p) : ∀ (r : List Pr) (t : Pr), Good D (t :: r) → (∀ c ∈ D, le t c → 0 ≤ turn t p c) → Good (p :: D) (p :: popF p (t :: r))
  | [], t, h, H => by
    have ht := good_mem h
    refine ⟨hp t ht, fun c hc => ?_, List.mem_cons_self, trivial, List.mem_cons_of_mem _ ht, fun c hc => ?_⟩
    · rcases List.mem_cons.mp hc with rfl | hc
      · exact ⟨by rw [turn_end]; exact Int.le_refl _, fun _ => .inl ⟨lt_le (hp t ht), le_refl _⟩⟩
      · exact ⟨H c hc (h.2 c hc), fun _ => .inl ⟨h.2 c hc, lt_le (hp c hc)⟩⟩
    · rcases List.mem_cons.mp hc with rfl | hc
      · exact lt_le (hp t ht)
      · exact h.2 c hc
  | a :: r, b, h, H => by
    have hb := good_mem h
    unfold popF
    by_cases ht : 0 < turn a b p
    · rw [if_pos ht]
      have hbp := hp b hb
      refine ⟨hbp, fun c hc => ?_, List.mem_cons_self, ht, lift r a b h hbp ht⟩
      rcases List.mem_cons.mp hc with rfl | hc
      · exact ⟨by rw [turn_end]; exact Int.le_refl _, fun _ => .inl ⟨lt_le hbp, le_refl _⟩⟩
      · rcases le_or b c with hle | hlt
        · exact ⟨H c hc hle, fun _ => .inl ⟨hle, lt_le (hp c hc)⟩⟩
        · have h1 : lt a b := h.1
          have h2 := (h.2.1 c hc).1
          have e1 : turn a b c = - cr (sb b a) (sb b c) := by unfold turn cr sb; grind
          have e2 := turn_cr2 a b p
          have e3 : turn b p c = cr (sb b c) (sb p b) := by unfold turn cr sb; grind
          have e4 : cr (sb b c) (sb b a) = - cr (sb b a) (sb b c) := by unfold cr sb; grind
          have := ang2 (pos_of hlt) (pos_of h1) (pos_of hbp) (by rw [e4]; omega) (by rw [← e2]; exact ht)
          exact ⟨by omega, fun e => by omega⟩
    · rw [if_neg ht]
      refine step hp r a h.2.2.2.2 fun c hc hac => ?_
      have h1 : lt a b := h.1
      have h2 := (h.2.1 c hc).1
      have hap := lt_trans h1 (hp b hb)
      rcases eq_or_lt hac with e | hac'
      · rw [← e, turn_start]; exact Int.le_refl _
      · have e1 : cr (sb p a) (sb b a) = - turn a b p := by unfold turn cr sb; grind
        rw [turn_cr]
        exact ang (nng_of (lt_le hap)) (pos_of h1) (nng_of hac) (by rw [e1]; omega) (by rw [← turn_cr]; exact h2)
def Srt (l : List Pr) : Prop := l.Pairwise lt
theorem half_good : ∀ (l D : List Pr) (f : List Pr), Srt l → (∀ c ∈ D, ∀ p ∈ l, lt c p) → (∀ h r, f = h :: r → ∀ c ∈ D, le c h) → Good D f → ∃ D', Good D' (halfF l f) ∧ (∀ x, x ∈ D' ↔ x ∈ D ∨ x ∈ l) ∧ (∀ h r, halfF l f = h :: r → ∀ c ∈ D', le c h)
  | [], D, f, _, _, hm, g => ⟨D, g, by simp, hm⟩
  | p :: l, D, [], _, _, _, g => g.elim
  | p :: l, D, t :: r, hs, hd, hm, g => by
    obtain ⟨s1, s2⟩ := List.pairwise_cons.mp hs
    have hp : ∀ c ∈ D, lt c p := fun c hc => hd c hc p List.mem_cons_self
    have gs := step hp r t g (fun c hc htc => by
      rw [le_antisymm (hm t r rfl c hc) htc, turn_start]
      exact Int.le_refl _)
    obtain ⟨D', g1, g2, g3⟩ := half_good l (p :: D) (p :: popF p (t :: r)) s2 (fun c hc q hq => by
      rcases List.mem_cons.mp hc with rfl | hc
      · exact s1 q hq
      · exact hd c hc q (List.mem_cons_of_mem _ hq)) (fun h r e c hc => by
      cases e
      rcases List.mem_cons.mp hc with rfl | hc
      · exact le_refl _
      · exact lt_le (hp c hc)) gs
    refine ⟨D', g1, fun x => ?_, g3⟩
    rw [g2]
    simp only [List.mem_cons]
    constructor
    · rintro ((h | h) | h) <;> simp [h]
    · rintro (h | h | h) <;> simp [h]
/-- the chain of a sorted list -/
theorem half_all {p : Pr} {l : List Pr} (hs : Srt (p :: l)) : ∃ D, Good D (halfF (p :: l) []) ∧ (∀ x, x ∈ D ↔ x ∈ p :: l) ∧ (∀ h r, halfF (p :: l) [] = h :: r → ∀ c ∈ D, le c h) := by
  obtain ⟨s1, s2⟩ := List.pairwise_cons.mp hs
  obtain ⟨D, g1, g2, g3⟩ := half_good l [p] [p] s2 (fun c hc q hq => by simp at hc; subst hc; exact s1 q hq) (fun h r e c hc => by simp at hc; subst hc; cases e; exact le_refl _) ⟨by simp, fun c hc => by simp at hc; subst hc; exact le_refl _⟩
  refine ⟨D, g1, fun x => by rw [g2]; simp, g3⟩
/-! what follows a corner -/
structure Nx (D : List Pr) (a b : Pr) : Prop where
  mem : b ∈ D
  ne : a ≠ b
  edge : Edge D a b
theorem turn_swap (a b c : Pr) : turn a c b = - turn a b c := by unfold turn; grind
theorem Nx.uniq {D : List Pr} {a b c : Pr} (h : Nx D a b) (g : Nx D a c) : b = c := by
  obtain ⟨e1, e2⟩ := h.edge c g.mem
  obtain ⟨e3, e4⟩ := g.edge b h.mem
  have := turn_swap a b c
  have z1 : turn a b c = 0 := by omega
  have z2 : turn a c b = 0 := by omega
  rcases e2 z1 with ⟨p1, p2⟩ | ⟨p1, p2⟩ <;> rcases e4 z2 with ⟨q1, q2⟩ | ⟨q1, q2⟩
  · exact le_antisymm q2 p2
  · exact absurd (le_antisymm (le_trans p1 p2) q2) h.ne
  · exact absurd (le_antisymm q1 (le_trans p1 p2)) h.ne
  · exact le_antisymm p1 q1
def Fwd (R : Pr → Pr → Prop) : List Pr → Prop
  | x :: y :: r => R x y ∧ Fwd R (y :: r)
  | _ => True
theorem fwd_app {R : Pr → Pr → Prop} : ∀ {l : List Pr} {x y : Pr} {r : List Pr}, Fwd R (l ++ [x]) → R x y → Fwd R (y :: r) → Fwd R (l ++ x :: y :: r)
  | [], x, y, r, _, h, g => ⟨h, g⟩
  | [a], x, y, r, f, h, g => ⟨f.1, h, g⟩
  | a :: b :: l, x, y, r, f, h, g => ⟨f.1, fwd_app (l := b :: l) f.2 h g⟩
theorem fwd_join {R : Pr → Pr → Prop} : ∀ {l : List Pr} {x : Pr} {r : List Pr}, Fwd R (l ++ [x]) → Fwd R (x :: r) → Fwd R (l ++ x :: r)
  | [], x, r, _, g => g
  | [a], x, r, f, g => ⟨f.1, g⟩
  | a :: b :: l, x, r, f, g => ⟨f.1, fwd_join (l := b :: l) f.2 g⟩
/-- a way round: from a corner, corner by corner, back to it -/
structure Closed (D : List Pr) (x : Pr) (t : List Pr) : Prop where
  way : Fwd (Nx D) (x :: t ++ [x])
  once : x ∉ t
theorem closed_uniq_aux {D : List Pr} {x : Pr} : ∀ {t u : List Pr} {y : Pr}, Fwd (Nx D) (y :: t ++ [x]) → Fwd (Nx D) (y :: u ++ [x]) → x ∉ t → x ∉ u → t = u
  | [], [], y, _, _, _, _ => rfl
  | [], b :: u, y, f, g, _, h => absurd (Nx.uniq f.1 g.1) (fun e => h (by rw [e]; exact List.mem_cons_self))
  | a :: t, [], y, f, g, h, _ => absurd (Nx.uniq f.1 g.1) (fun e => h (by rw [e]; exact List.mem_cons_self))
  | a :: t, b :: u, y, f, g, h, k => by
    have e := Nx.uniq f.1 g.1
    subst e
    rw [closed_uniq_aux (y := a) f.2 g.2 (fun m => h (List.mem_cons_of_mem _ m)) (fun m => k (List.mem_cons_of_mem _ m))]
theorem Closed.uniq {D : List Pr} {x : Pr} {t u : List Pr} (h : Closed D x t) (g : Closed D x u) : t = u := closed_uniq_aux h.way g.way h.once g.once
/-! the lower chain, forward -/
theorem good_fwd {D : List Pr} : ∀ {f : List Pr}, Good D f → Fwd (fun a b => Nx D a b ∧ lt a b) f.reverse
  | [a], _ => trivial
  | b :: a :: r, h => by
    have ih := good_fwd h.2.2.2.2
    rw [List.reverse_cons] at ih
    rw [List.reverse_cons, List.reverse_cons, List.append_assoc]
    exact fwd_app (r := []) ih ⟨⟨h.2.2.1, fun e => lt_irrefl (e ▸ h.1), h.2.1⟩, h.1⟩ trivial
theorem good_last {D : List Pr} : ∀ {f : List Pr}, Good D f → ∃ m r, f.reverse = m :: r ∧ m ∈ D ∧ ∀ c ∈ D, le m c
  | [a], h => ⟨a, [], rfl, h.1, h.2⟩
  | b :: a :: r, h => by
    obtain ⟨m, u, e, h1, h2⟩ := good_last h.2.2.2.2
    refine ⟨m, u ++ [b], ?_, h1, h2⟩
    rw [List.reverse_cons, e]
    rfl
/-! turned about 0 -/
def ng (p : Pr) : Pr := (-p.1, -p.2)
theorem ng_ng (p : Pr) : ng (ng p) = p := by simp [ng]
theorem turn_ng (a b c : Pr) : turn (ng a) (ng b) (ng c) = turn a b c := by unfold turn ng; grind
theorem lt_ng {a b : Pr} : lt (ng a) (ng b) ↔ lt b a := by unfold lt ng; simp; omega
theorem le_ng {a b : Pr} : le (ng a) (ng b) ↔ le b a := by unfold le ng; simp; omega
theorem pop_ng (p : Pr) : ∀ f : List Pr, popF (ng p) (f.map ng) = (popF p f).map ng
  | [] => rfl
  | [a] => rfl
  | b :: a :: r => by
    show popF (ng p) (ng b :: ng a :: r.map ng) = _
    unfold popF
    rw [turn_ng]
    by_cases h : 0 < turn a b p
    · rw [if_pos h, if_pos h]; rfl
    · rw [if_neg h, if_neg h]
      exact pop_ng p (a :: r)
theorem half_ng : ∀ (l f : List Pr), halfF (l.map ng) (f.map ng) = (halfF l f).map ng
  | [], f => rfl
  | p :: l, f => by
    show halfF (l.map ng) (ng p :: popF (ng p) (f.map ng)) = _
    rw [pop_ng]
    exact half_ng l (p :: popF p f)
theorem edge_ng {D D' : List Pr} {a b : Pr} (hD : ∀ x, x ∈ D' → ng x ∈ D) (h : Edge D (ng a) (ng b)) : Edge D' a b := fun c hc => by
  obtain ⟨h1, h2⟩ := h (ng c) (hD c hc)
  rw [turn_ng] at h1 h2
  refine ⟨h1, fun e => ?_⟩
  rcases h2 e with ⟨x, y⟩ | ⟨x, y⟩
  · exact .inr ⟨le_ng.mp y, le_ng.mp x⟩
  · exact .inl ⟨le_ng.mp y, le_ng.mp x⟩
theorem srt_ng {l : List Pr} (h : Srt l) : Srt (l.reverse.map ng) := by
  unfold Srt at *
  rw [List.pairwise_map, List.pairwise_reverse]
  exact h.imp fun h => lt_ng.mpr h
theorem fwd_imp {R S : Pr → Pr → Prop} (h : ∀ a b, R a b → S a b) : ∀ {l : List Pr}, Fwd R l → Fwd S l
  | [], _ => trivial
  | [_], _ => trivial
  | x :: y :: r, f => ⟨h x y f.1, fwd_imp h (l := y :: r) f.2⟩
theorem fwd_map {R S : Pr → Pr → Prop} {g : Pr → Pr} (h : ∀ a b, R (g a) (g b) → S a b) : ∀ {l : List Pr}, Fwd R (l.map g) → Fwd S l
  | [], _ => trivial
  | [_], _ => trivial
  | x :: y :: r, f => ⟨h x y f.1, fwd_map h (l := y :: r) f.2⟩
/-- both chains of a sorted list: from the least to the greatest, and back -/
theorem chains {p q : Pr} {l : List Pr} (hs : Srt (p :: q :: l)) : ∃ (m : Pr) (u v : List Pr), (halfF (p :: q :: l) []).reverse = p :: (u ++ [m]) ∧ (halfF (p :: q :: l).reverse []).reverse = m :: (v ++ [p]) ∧ p ≠ m ∧
    Fwd (fun a b => Nx (p :: q :: l) a b ∧ lt a b) (p :: (u ++ [m])) ∧ Fwd (fun a b => Nx (p :: q :: l) a b ∧ lt b a) (m :: (v ++ [p])) := by
  have hp : ∀ c ∈ p :: q :: l, le p c := fun c hc => by
    rcases List.mem_cons.mp hc with rfl | hc
    · exact le_refl _
    · exact lt_le ((List.pairwise_cons.mp hs).1 c hc)
  -- the greatest
  obtain ⟨m, r, hm⟩ : ∃ m r, (p :: q :: l).reverse = m :: r := by
    cases h : (p :: q :: l).reverse with
    | nil => simp at h
    | cons m r => exact ⟨m, r, rfl⟩
  have hm1 : ∀ c ∈ p :: q :: l, le c m := fun c hc => by
    have h2 : (p :: q :: l).reverse.Pairwise (fun a b => lt b a) := List.pairwise_reverse.mpr hs
    rw [hm] at h2
    have h3 : c ∈ m :: r := by rw [← hm]; exact List.mem_reverse.mpr hc
    rcases List.mem_cons.mp h3 with rfl | h3
    · exact le_refl _
    · exact lt_le ((List.pairwise_cons.mp h2).1 c h3)
  have hmem : m ∈ p :: q :: l := by
    have : m ∈ (p :: q :: l).reverse := by rw [hm]; exact List.mem_cons_self
    exact List.mem_reverse.mp this
  have hpm : p ≠ m := fun e => by
    have := (List.pairwise_cons.mp hs).1 q List.mem_cons_self
    have h2 := hm1 q (by simp)
    rw [← e] at h2
    exact lt_irrefl (lt_of_le_lt h2 this)
  obtain ⟨D, g1, g2, g3⟩ := half_all hs
  have e1 := good_fwd g1
  obtain ⟨m1, r1, k1, k2, k3⟩ := good_last g1
  have hm1p : m1 = p := le_antisymm (k3 p ((g2 p).mpr (by simp))) (hp m1 ((g2 m1).mp k2))
  subst hm1p
  have toD : ∀ a b, Nx D a b → Nx (m1 :: q :: l) a b := fun a b h => ⟨(g2 b).mp h.mem, h.ne, fun c hc => h.edge c ((g2 c).mpr hc)⟩
  -- its end
  have hlast : ∃ u, r1 = u ++ [m] := by
    cases hf : halfF (m1 :: q :: l) [] with
    | nil => rw [hf] at g1; exact g1.elim
    | cons h t =>
      have hh : h = m := le_antisymm (hm1 h ((g2 h).mp (by rw [hf] at g1; exact good_mem g1))) (g3 h t hf m ((g2 m).mpr hmem))
      rw [hf, hh, List.reverse_cons] at k1
      cases t with
      | nil =>
        simp at k1
        exact absurd k1.1.symm hpm
      | cons a t =>
        rcases List.eq_nil_or_concat r1 with e | ⟨u, z, e⟩
        · rw [e] at k1
          have := congrArg List.length k1
          simp at this
        · rw [e] at k1
          have := congrArg List.getLast? k1
          simp [List.getLast?_cons] at this
          refine ⟨u, ?_⟩
          rw [e, this]
          simp
  obtain ⟨u, hu⟩ := hlast
  -- the way back
  have hs2 := srt_ng hs
  rw [hm] at hs2
  obtain ⟨D2, j1, j2, j3⟩ := half_all (p := ng m) (l := r.map ng) hs2
  have hD2 : ∀ x, x ∈ m1 :: q :: l → ng x ∈ D2 := fun x hx => by
    rw [j2]
    have : x ∈ m :: r := by rw [← hm]; exact List.mem_reverse.mpr hx
    exact List.mem_map.mpr ⟨x, this, rfl⟩
  have hD3 : ∀ x, ng x ∈ D2 → x ∈ m1 :: q :: l := fun x hx => by
    rw [j2] at hx
    have hx : ng x ∈ (m :: r).map ng := hx
    obtain ⟨y, hy, e⟩ := List.mem_map.mp hx
    have e2 : y = x := by rw [← ng_ng y, e, ng_ng]
    rw [← e2]
    rw [← hm] at hy
    exact List.mem_reverse.mp hy
  have eh : halfF (ng m :: r.map ng) [] = (halfF (m1 :: q :: l).reverse []).map ng := by
    rw [hm]
    exact half_ng (m :: r) []
  have f2 := good_fwd j1
  rw [eh, ← List.map_reverse] at f2
  have f3 := fwd_map (S := fun a b => Nx (m1 :: q :: l) a b ∧ lt b a) (fun a b h => ⟨⟨hD3 b h.1.mem, fun e => h.1.ne (by rw [e]), edge_ng hD2 h.1.edge⟩, lt_ng.mp h.2⟩) f2
  obtain ⟨m2, r2, k4, k5, k6⟩ := good_last j1
  rw [eh, ← List.map_reverse] at k4
  obtain ⟨w, r3, k7, k8, k9⟩ : ∃ w r3, (halfF (m1 :: q :: l).reverse []).reverse = w :: r3 ∧ ng w = m2 ∧ r3.map ng = r2 := by
    cases h : (halfF (m1 :: q :: l).reverse []).reverse with
    | nil => rw [h] at k4; simp at k4
    | cons w r3 => rw [h] at k4; simp at k4; exact ⟨w, r3, rfl, k4.1, k4.2⟩
  have hw : w = m := by
    have h1 : le m2 (ng m) := k6 (ng m) (hD2 m hmem)
    have h2 : le (ng m) m2 := by
      rw [← k8]
      exact le_ng.mpr (hm1 w (hD3 w (by rw [k8]; exact k5)))
    have := le_antisymm h1 h2
    rw [← k8] at this
    rw [← ng_ng w, this, ng_ng]
  subst hw
  have hlast2 : ∃ v, r3 = v ++ [m1] := by
    cases hf : halfF (m1 :: q :: l).reverse [] with
    | nil => rw [hf] at k7; simp at k7
    | cons h t =>
      have hng : halfF (ng w :: r.map ng) [] = ng h :: t.map ng := by rw [eh, hf]; rfl
      have hh : h = m1 := by
        have h1 : le (ng m1) (ng h) := j3 _ _ hng (ng m1) (hD2 m1 (by simp))
        have h2 : ng h ∈ D2 := by rw [hng] at j1; exact good_mem j1
        exact le_antisymm (le_ng.mp h1) (hp h (hD3 h h2))
      rw [hf, hh, List.reverse_cons] at k7
      cases t with
      | nil =>
        simp at k7
        exact absurd k7.1 hpm
      | cons a t =>
        rcases List.eq_nil_or_concat r3 with e | ⟨v, z, e⟩
        · rw [e] at k7
          have := congrArg List.length k7
          simp at this
        · rw [e] at k7
          have := congrArg List.getLast? k7
          simp [List.getLast?_cons] at this
          refine ⟨v, ?_⟩
          rw [e, this]
          simp
  obtain ⟨v, hv⟩ := hlast2
  refine ⟨w, u, v, by rw [k1, hu], by rw [k7, hv], hpm, ?_, ?_⟩
  · rw [k1, hu] at e1
    exact fwd_imp (fun a b h => ⟨toD a b h.1, h.2⟩) e1
  · rw [k7, hv] at f3
    exact f3
/-- the corners of a sorted list -/
def hullF : List Pr → List Pr
  | [] => []
  | [a] => [a]
  | l => ((halfF l []).drop 1).reverse ++ ((halfF l.reverse []).drop 1).reverse
theorem fwd_lt {R : Pr → Pr → Prop} (hR : ∀ a b, R a b → lt a b) : ∀ {l : List Pr}, Fwd R l → l.Pairwise lt
  | [], _ => .nil
  | [a], _ => List.pairwise_singleton _ _
  | a :: b :: r, f => by
    have ih := fwd_lt hR (l := b :: r) f.2
    have h := hR a b f.1
    refine List.pairwise_cons.mpr ⟨fun c hc => ?_, ih⟩
    rcases List.mem_cons.mp hc with rfl | hc
    · exact h
    · exact lt_trans h ((List.pairwise_cons.mp ih).1 c hc)
theorem fwd_gt {R : Pr → Pr → Prop} (hR : ∀ a b, R a b → lt b a) : ∀ {l : List Pr}, Fwd R l → l.Pairwise (fun a b => lt b a)
  | [], _ => .nil
  | [a], _ => List.pairwise_singleton _ _
  | a :: b :: r, f => by
    have ih := fwd_gt hR (l := b :: r) f.2
    have h := hR a b f.1
    refine List.pairwise_cons.mpr ⟨fun c hc => ?_, ih⟩
    rcases List.mem_cons.mp hc with rfl | hc
    · exact h
    · exact lt_trans ((List.pairwise_cons.mp ih).1 c hc) h
theorem fwd_succ {R : Pr → Pr → Prop} : ∀ {l : List Pr} {e x : Pr}, Fwd R (l ++ [e]) → x ∈ l → ∃ y, R x y ∧ y ∈ l ++ [e]
  | [a], e, x, f, h => by
    simp at h
    subst h
    exact ⟨e, f.1, by simp⟩
  | a :: b :: l, e, x, f, h => by
    rcases List.mem_cons.mp h with rfl | h
    · exact ⟨b, f.1, by simp⟩
    · obtain ⟨y, h1, h2⟩ := fwd_succ (l := b :: l) f.2 h
      exact ⟨y, h1, List.mem_cons_of_mem _ h2⟩
theorem nodup_len : ∀ {l m : List Pr}, l.Nodup → (∀ x ∈ l, x ∈ m) → l.length ≤ m.length
  | [], m, _, _ => Nat.zero_le _
  | a :: l, m, nd, h => by
    obtain ⟨n1, n2⟩ := List.nodup_cons.mp nd
    have ha := h a List.mem_cons_self
    have := nodup_len (l := l) (m := m.erase a) n2 fun x hx => by
      refine (List.mem_erase_of_ne fun e => ?_).mpr (h x (List.mem_cons_of_mem _ hx))
      subst e
      exact n1 hx
    rw [List.length_erase_of_mem ha] at this
    have h2 : 0 < m.length := List.length_pos_of_mem ha
    simp
    omega
theorem nodup_lt {l : List Pr} (h : l.Pairwise lt) : l.Nodup := by
  unfold List.Nodup
  refine h.imp ?_
  intro a b hab e
  subst e
  exact lt_irrefl hab
theorem nodup_gt {l : List Pr} (h : l.Pairwise (fun a b => lt b a)) : l.Nodup := by
  unfold List.Nodup
  refine h.imp ?_
  intro a b hab e
  subst e
  exact lt_irrefl hab
theorem hull_closed {p q : Pr} {l : List Pr} (hs : Srt (p :: q :: l)) : ∃ t, hullF (p :: q :: l) = p :: t ∧ Closed (p :: q :: l) p t ∧ t.length + 1 ≤ (p :: q :: l).length ∧ (∀ x ∈ p :: t, x ∈ p :: q :: l) := by
  obtain ⟨m, u, v, h1, h2, h3, h4, h5⟩ := chains hs
  have d1 : ((halfF (p :: q :: l) []).drop 1).reverse = p :: u := by
    have : halfF (p :: q :: l) [] = (p :: (u ++ [m])).reverse := by rw [← h1, List.reverse_reverse]
    rw [this]
    simp
  have d2 : ((halfF (p :: q :: l).reverse []).drop 1).reverse = m :: v := by
    have : halfF (p :: q :: l).reverse [] = (m :: (v ++ [p])).reverse := by rw [← h2, List.reverse_reverse]
    rw [this]
    simp
  have hh : hullF (p :: q :: l) = p :: (u ++ m :: v) := by
    show ((halfF (p :: q :: l) []).drop 1).reverse ++ ((halfF (p :: q :: l).reverse []).drop 1).reverse = _
    rw [d1, d2]
    rfl
  have up := fwd_lt (fun a b h => h.2) h4
  have dn := fwd_gt (fun a b h => h.2) h5
  have dn' : ((m :: v) ++ [p]).Pairwise (fun a b => lt b a) := dn
  have nd : (p :: (u ++ m :: v)).Nodup := by
    have e : p :: (u ++ m :: v) = (p :: u) ++ (m :: v) := rfl
    rw [e, List.nodup_append]
    refine ⟨?_, ?_, fun x hx y hy exy => ?_⟩
    · have : (p :: u).Pairwise lt := (List.pairwise_append.mp (show ((p :: u) ++ [m]).Pairwise lt from up)).1
      exact nodup_lt this
    · exact nodup_gt (List.pairwise_append.mp dn').1
    · subst exy
      obtain ⟨a, ha, _⟩ := fwd_succ (l := p :: u) (e := m) h4 hx
      obtain ⟨b, hb, _⟩ := fwd_succ (l := m :: v) (e := p) h5 hy
      have := Nx.uniq ha.1 hb.1
      subst this
      exact lt_irrefl (lt_trans ha.2 hb.2)
  have sub : ∀ x ∈ p :: (u ++ m :: v), x ∈ p :: q :: l := by
    have gen : ∀ {R : Pr → Pr → Prop} (hR : ∀ a b, R a b → b ∈ p :: q :: l) {k : List Pr} {a : Pr}, Fwd R (a :: k) → ∀ x ∈ k, x ∈ p :: q :: l := by
      intro R hR k
      induction k with
      | nil => intro a _ x hx; cases hx
      | cons b k ih =>
        intro a f x hx
        rcases List.mem_cons.mp hx with rfl | hx
        · exact hR _ _ f.1
        · exact ih f.2 x hx
    intro x hx
    rcases List.mem_cons.mp hx with rfl | hx
    · simp
    · rcases List.mem_append.mp hx with hx | hx
      · exact gen (fun a b h => h.1.mem) h4 x (List.mem_append_left _ hx)
      · rcases List.mem_cons.mp hx with rfl | hx
        · exact gen (fun a b h => h.1.mem) h4 x (by simp)
        · exact gen (fun a b h => h.1.mem) h5 x (List.mem_append_left _ hx)
  refine ⟨u ++ m :: v, hh, ⟨?_, (List.nodup_cons.mp nd).1⟩, ?_, sub⟩
  · have w1 : Fwd (Nx (p :: q :: l)) ((p :: u) ++ [m]) := fwd_imp (fun a b h => h.1) h4
    have w2 : Fwd (Nx (p :: q :: l)) (m :: (v ++ [p])) := fwd_imp (fun a b h => h.1) h5
    have := fwd_join w1 w2
    have e : p :: (u ++ m :: v) ++ [p] = (p :: u) ++ m :: (v ++ [p]) := by simp
    rw [e]
    exact this
  · have := nodup_len nd sub
    simpa using this
/-! the way round by the outermost next one -/
def isB (a b c : Pr) : Bool := if lt a b then decide (le a c) && decide (le c b) else decide (le b c) && decide (le c a)
theorem isB_ok {a b c : Pr} : isB a b c = true ↔ Btw a b c := by
  unfold isB Btw
  by_cases h : lt a b
  · rw [if_pos h]
    simp only [Bool.and_eq_true, decide_eq_true_eq]
    constructor
    · exact .inl
    · rintro (z | ⟨z1, z2⟩)
      · exact z
      · exact absurd (le_antisymm (lt_le h) (le_trans z1 z2)) (fun e => lt_irrefl (e ▸ h))
  · rw [if_neg h]
    simp only [Bool.and_eq_true, decide_eq_true_eq]
    constructor
    · exact .inr
    · rintro (⟨z1, z2⟩ | z)
      · rcases eq_or_lt (le_trans z1 z2) with e | e
        · subst e; exact ⟨z1, z2⟩
        · exact absurd e h
      · exact z
def better (here best s : Pr) : Bool := !decide (s = here) && (decide (turn here best s < 0) || (decide (turn here best s = 0) && !isB here best s))
def stepW (here : Pr) : List Pr → Pr → Pr
  | [], best => best
  | s :: l, best => stepW here l (if better here best s = true then s else best)
theorem stepW_ok {D : List Pr} {here b : Pr} (N : Nx D here b) : ∀ {l : List Pr} {best : Pr}, (∀ s ∈ l, s ∈ D) → best ∈ D → best ≠ here → (b = best ∨ b ∈ l) → stepW here l best = b
  | [], best, _, _, _, h => by
    rcases h with rfl | h
    · rfl
    · cases h
  | s :: l, best, hl, hb, hn, h => by
    unfold stepW
    have hs := hl s List.mem_cons_self
    by_cases hbb : b = best
    · subst hbb
      obtain ⟨e1, e2⟩ := N.edge s hs
      have : better here b s = false := by
        unfold better
        have h1 : decide (turn here b s < 0) = false := decide_eq_false (by omega)
        rw [h1]
        by_cases z : turn here b s = 0
        · rw [isB_ok.mpr (e2 z)]; simp
        · simp [z]
      rw [this]
      exact stepW_ok N (fun s hs => hl s (List.mem_cons_of_mem _ hs)) hb hn (.inl rfl)
    · by_cases hbs : b = s
      · subst hbs
        obtain ⟨e1, e2⟩ := N.edge best hb
        have sw := turn_swap here b best
        have : better here best b = true := by
          unfold better
          have h0 : decide (b = here) = false := decide_eq_false (fun e => N.ne e.symm)
          rw [h0]
          by_cases z : turn here b best = 0
          · have z2 : turn here best b = 0 := by omega
            have nb : isB here best b = false := by
              rw [Bool.eq_false_iff]
              intro y
              rcases isB_ok.mp y with ⟨p1, p2⟩ | ⟨p1, p2⟩ <;> rcases e2 z with ⟨q1, q2⟩ | ⟨q1, q2⟩
              · exact hbb (le_antisymm p2 q2)
              · exact N.ne (le_antisymm p1 (le_trans q1 q2))
              · exact N.ne (le_antisymm (le_trans q1 q2) p2)
              · exact hbb (le_antisymm q1 p1)
            simp [z2, nb]
          · have : turn here best b < 0 := by omega
            simp [this]
        rw [this]
        exact stepW_ok N (fun s hs => hl s (List.mem_cons_of_mem _ hs)) hs (fun e => N.ne e.symm) (.inl rfl)
      · have hm : b ∈ l := by
          rcases h with h | h
          · exact absurd h hbb
          · rcases List.mem_cons.mp h with h | h
            · exact absurd h hbs
            · exact h
        refine stepW_ok N (fun s hs => hl s (List.mem_cons_of_mem _ hs)) ?_ ?_ (.inr hm)
        · split
          · exact hs
          · exact hb
        · split
          · rename_i hbt
            intro e
            unfold better at hbt
            rw [e] at hbt
            simp at hbt
          · exact hn
/-- laps: from here, the corners found so far, back to the start -/
def wrapF (some_ : List Pr) (start : Pr) : Nat → Pr → List Pr → Option (List Pr)
  | 0, _, _ => none
  | n + 1, here, found => match some_.filter (fun s => !decide (s = here)) with
    | [] => none
    | b0 :: _ => if stepW here some_ b0 = start then some found else wrapF some_ start n (stepW here some_ b0) (found ++ [stepW here some_ b0])
theorem wrap_ok {D some_ : List Pr} (hD : ∀ x, x ∈ some_ ↔ x ∈ D) {x : Pr} : ∀ {t : List Pr} {n : Nat} {here : Pr} {found : List Pr}, Fwd (Nx D) (here :: t ++ [x]) → x ∉ t → t.length < n → wrapF some_ x n here found = some (found ++ t)
  | t, 0, _, _, _, _, h => absurd h (by omega)
  | t, n + 1, here, found, f, hx, h => by
    obtain ⟨b, r, e, N⟩ : ∃ b r, t ++ [x] = b :: r ∧ Nx D here b := by
      cases t with
      | nil => exact ⟨x, [], rfl, f.1⟩
      | cons b t => exact ⟨b, t ++ [x], rfl, f.1⟩
    have hb : b ∈ some_.filter (fun s => !decide (s = here)) := by
      rw [List.mem_filter]
      refine ⟨(hD b).mpr N.mem, ?_⟩
      simp only [Bool.not_eq_true', decide_eq_false_iff_not]
      exact fun e => N.ne e.symm
    unfold wrapF
    cases hf : some_.filter (fun s => !decide (s = here)) with
    | nil => rw [hf] at hb; cases hb
    | cons b0 bs =>
      have h0 : b0 ∈ some_.filter (fun s => !decide (s = here)) := by rw [hf]; exact List.mem_cons_self
      rw [List.mem_filter] at h0
      have hs : stepW here some_ b0 = b := stepW_ok N (fun s hs => (hD s).mp hs) ((hD b0).mp h0.1) (by simpa using h0.2) (.inr ((hD b).mpr N.mem))
      dsimp only
      rw [hs]
      cases t with
      | nil =>
        simp at e
        rw [if_pos e.1.symm]
        simp
      | cons c t =>
        simp at e
        obtain ⟨rfl, rfl⟩ := e
        rw [if_neg (fun e => hx (by rw [e]; exact List.mem_cons_self))]
        rw [wrap_ok hD (t := t) (n := n) f.2 (fun m => hx (List.mem_cons_of_mem _ m)) (by simp at h; omega)]
        simp
end Hu
set_option maxHeartbeats 200000
/-! the program's hulls are those of the theory, where numbers are small -/
namespace Hp
open Hu Vy
theorem log_lt {i : Int} (h : i.natAbs < 2 ^ 1100) : Nat.log2 i.natAbs < 1100 := by
  by_cases h0 : i.natAbs = 0
  · rw [h0]; decide
  · exact (Nat.log2_lt h0).mpr h
theorem sm_true {i j : Int} (h1 : i.natAbs < 2 ^ 1100) (h2 : j.natAbs < 2 ^ 1100) : Mr.smN i j = true := by
  have a := log_lt h1
  have b := log_lt h2
  unfold Mr.smN
  rw [Nat.blt_eq]
  show Nat.log2 _ + Nat.log2 _ < _
  omega
theorem dv_true {j : Int} (h0 : j ≠ 0) (h1 : j.natAbs < 2 ^ 1100) : Mr.dvN j = true := by
  have a := log_lt h1
  unfold Mr.dvN
  split
  · omega
  · rename_i n hn
    rw [hn] at a
    rw [Nat.blt_eq]
    show Nat.log2 n.succ < 8900
    omega
/-- small numbers -/
def Sm (p : Pr) : Prop := p.1.natAbs ≤ 2 ^ 62 ∧ p.2.natAbs ≤ 2 ^ 62
theorem pw : (2 : Nat) ^ 64 ≤ 2 ^ 1100 := Nat.pow_le_pow_right (by decide) (by decide)
theorem turnO_some {a b c : Pr} (ha : Sm a) (hb : Sm b) (hc : Sm c) : Mr.turnO a b c = some (turn a b c) := by
  obtain ⟨a1, a2⟩ := ha
  obtain ⟨b1, b2⟩ := hb
  obtain ⟨c1, c2⟩ := hc
  have pw := pw
  unfold Mr.turnO
  simp only [fI_eq]
  have e : ∀ x y : Int, Int.sub x y = x - y := fun _ _ => rfl
  have s1 : Mr.smN (Int.sub b.1 a.1) (Int.sub c.2 a.2) = true := sm_true (by rw [e]; omega) (by rw [e]; omega)
  have s2 : Mr.smN (Int.sub b.2 a.2) (Int.sub c.1 a.1) = true := sm_true (by rw [e]; omega) (by rw [e]; omega)
  rw [s1, s2]
  rfl
theorem popO_some {p : Pr} (hp : Sm p) : ∀ f : List Pr, (∀ q ∈ f, Sm q) → Mr.popO p f = some (popF p f) ∧ ∀ q ∈ popF p f, q ∈ f
  | [], _ => ⟨rfl, fun q h => h⟩
  | [a], _ => ⟨rfl, fun q h => h⟩
  | b :: a :: r, h => by
    have ht := turnO_some (h a (by simp)) (h b (by simp)) hp
    obtain ⟨i1, i2⟩ := popO_some hp (a :: r) (fun q hq => h q (List.mem_cons_of_mem _ hq))
    unfold Mr.popO popF
    rw [ht]
    by_cases h0 : 0 < turn a b p
    · rw [if_pos h0]
      refine ⟨?_, fun q h => h⟩
      cases hk : turn a b p with
      | ofNat n =>
        cases n with
        | zero => rw [hk] at h0; exact absurd h0 (by decide)
        | succ n => rfl
      | negSucc n => rw [hk] at h0; exact absurd h0 (by omega)
    · rw [if_neg h0]
      refine ⟨?_, fun q hq => List.mem_cons_of_mem _ (i2 q hq)⟩
      cases hk : turn a b p with
      | ofNat n =>
        cases n with
        | zero => exact i1
        | succ n => rw [hk] at h0; exact absurd (by simp : (0 : Int) < Int.ofNat (n + 1)) h0
      | negSucc n => exact i1
theorem halfO_some : ∀ (l f : List Pr), (∀ q ∈ l, Sm q) → (∀ q ∈ f, Sm q) → Mr.halfL l f = some (halfF l f)
  | [], f, _, _ => rfl
  | p :: l, f, hl, hf => by
    obtain ⟨i1, i2⟩ := popO_some (hl p List.mem_cons_self) f hf
    unfold Mr.halfL halfF
    rw [i1]
    exact halfO_some l (p :: popF p f) (fun q hq => hl q (List.mem_cons_of_mem _ hq)) (fun q hq => by
      rcases List.mem_cons.mp hq with rfl | hq
      · exact hl q List.mem_cons_self
      · exact hf q (i2 q hq))
/-! sorted, each once -/
theorem memP_iff (p : Pr) : ∀ l : List Pr, Mr.memP p l = true ↔ p ∈ l
  | [] => by simp [Mr.memP]
  | q :: l => by
    unfold Mr.memP
    rw [eqI_eq, eqI_eq]
    by_cases h : p = q
    · subst h; simp
    · have : ¬ (p.1 = q.1 ∧ p.2 = q.2) := fun z => h (Prod.ext z.1 z.2)
      have h2 : (decide (p.1 = q.1) && decide (p.2 = q.2)) = false := by
        rw [Bool.eq_false_iff]
        simpa using this
      rw [h2]
      simp [h, memP_iff p l]
theorem dedup_spec : ∀ (l acc : List Pr), acc.Nodup → (Mr.dedup l acc).Nodup ∧ ∀ x, x ∈ Mr.dedup l acc ↔ x ∈ acc ∨ x ∈ l
  | [], acc, h => ⟨h, fun x => by simp [Mr.dedup]⟩
  | p :: l, acc, h => by
    unfold Mr.dedup
    by_cases hm : p ∈ acc
    · rw [(memP_iff p acc).mpr hm]
      obtain ⟨h1, h2⟩ := dedup_spec l acc h
      refine ⟨h1, fun x => ?_⟩
      rw [h2]
      simp only [List.mem_cons]
      constructor
      · rintro (z | z) <;> simp [z]
      · rintro (z | z | z)
        · simp [z]
        · subst z; simp [hm]
        · simp [z]
    · have : Mr.memP p acc = false := by
        rw [Bool.eq_false_iff]
        exact fun z => hm ((memP_iff p acc).mp z)
      rw [this]
      obtain ⟨h1, h2⟩ := dedup_spec l (acc ++ [p]) (by
        rw [List.nodup_append]
        exact ⟨h, List.pairwise_singleton _ _, fun a ha b hb e => by simp at hb; subst hb; subst e; exact hm ha⟩)
      refine ⟨h1, fun x => ?_⟩
      rw [h2]
      simp [or_assoc]
theorem ltPr_iff (p q : Pr) : Mr.ltPr p q = true ↔ lt p q := by
  unfold Mr.ltPr lt
  rw [ltI_eq, eqI_eq, ltI_eq]
  by_cases h1 : p.1 < q.1
  · simp [h1]
  · by_cases h2 : p.1 = q.1
    · simp [h2]
    · simp [h1, h2]
theorem ins_spec (a : Pr) : ∀ l : List Pr, Srt l → a ∉ l → Srt (Mr.insP a l) ∧ ∀ x, x ∈ Mr.insP a l ↔ x = a ∨ x ∈ l
  | [], _, _ => ⟨List.pairwise_singleton _ _, fun x => by simp [Mr.insP]⟩
  | b :: l, h, hn => by
    obtain ⟨s1, s2⟩ := List.pairwise_cons.mp h
    unfold Mr.insP
    by_cases hb : lt b a
    · rw [(ltPr_iff b a).mpr hb]
      obtain ⟨i1, i2⟩ := ins_spec a l s2 (fun z => hn (List.mem_cons_of_mem _ z))
      refine ⟨List.pairwise_cons.mpr ⟨fun x hx => ?_, i1⟩, fun x => ?_⟩
      · rcases (i2 x).mp hx with rfl | hx
        · exact hb
        · exact s1 x hx
      · simp only [List.mem_cons, i2]
        constructor
        · rintro (z | z | z) <;> simp [z]
        · rintro (z | z | z) <;> simp [z]
    · have e : Mr.ltPr b a = false := by
        rw [Bool.eq_false_iff]
        exact fun z => hb ((ltPr_iff b a).mp z)
      rw [e]
      have hab : lt a b := by
        rcases le_or a b with z | z
        · rcases eq_or_lt z with z | z
          · exact absurd (by rw [z]; exact List.mem_cons_self) hn
          · exact z
        · exact absurd z hb
      refine ⟨List.pairwise_cons.mpr ⟨fun x hx => ?_, h⟩, fun x => by simp⟩
      rcases List.mem_cons.mp hx with rfl | hx
      · exact hab
      · exact lt_trans hab (s1 x hx)
theorem sort_spec : ∀ l : List Pr, l.Nodup → Srt (Mr.sortP l) ∧ ∀ x, x ∈ Mr.sortP l ↔ x ∈ l
  | [], _ => ⟨.nil, fun x => by simp [Mr.sortP]⟩
  | a :: l, h => by
    obtain ⟨n1, n2⟩ := List.nodup_cons.mp h
    obtain ⟨i1, i2⟩ := sort_spec l n2
    obtain ⟨j1, j2⟩ := ins_spec a (Mr.sortP l) i1 (fun z => n1 ((i2 a).mp z))
    exact ⟨j1, fun x => by show x ∈ Mr.insP a (Mr.sortP l) ↔ _; rw [j2, i2]; simp⟩
/-- the pairs in order, each once -/
def srt (l : List Pr) : List Pr := Mr.sortP (Mr.dedup l [])
theorem srt_spec (l : List Pr) : Srt (srt l) ∧ ∀ x, x ∈ srt l ↔ x ∈ l := by
  obtain ⟨d1, d2⟩ := dedup_spec l [] .nil
  obtain ⟨s1, s2⟩ := sort_spec _ d1
  exact ⟨s1, fun x => by show x ∈ Mr.sortP _ ↔ _; rw [s2, d2]; simp⟩
theorem fL_eq' {α β : Type} : ∀ (l : List α) (k : List α → β), Mr.fL l k = k l
  | [], k => rfl
  | a :: l, k => fL_eq' l fun l => k (a :: l)
theorem pairsHull_some {l : List Pr} (hl : ∀ q ∈ l, Sm q) : Mr.pairsHullO l = some (hullF (srt l)) := by
  obtain ⟨s1, s2⟩ := srt_spec l
  have hs : ∀ q ∈ srt l, Sm q := fun q hq => hl q ((s2 q).mp hq)
  unfold Mr.pairsHullO
  rw [fL_eq']
  show (match srt l with
    | [] => some []
    | [a] => some [a]
    | l => (Mr.halfO l).bind fun f => (Mr.halfO l.reverse).bind fun g => Mr.fL ((f.drop 1).reverse ++ (g.drop 1).reverse) some) = _
  generalize srt l = s at hs
  cases s with
  | nil => rfl
  | cons a s =>
    cases s with
    | nil => rfl
    | cons b s =>
      dsimp only
      have e1 : Mr.halfO (a :: b :: s) = some (halfF (a :: b :: s) []) := halfO_some _ _ hs (fun q h => by cases h)
      have e2 : Mr.halfO (a :: b :: s).reverse = some (halfF (a :: b :: s).reverse []) := halfO_some _ _ (fun q hq => hs q (List.mem_reverse.mp hq)) (fun q h => by cases h)
      rw [e1, e2]
      simp only [Option.bind_some, fL_eq']
      rfl
end Hp
set_option maxHeartbeats 200000
/-! spots: a point as three whole numbers; the law's own way round -/
namespace Hs
open Hu
abbrev Spot := Int × Int × Int
/-- a spot stands for the pair p over b -/
structure Rep (b : Int) (s : Spot) (p : Pr) : Prop where
  z : 0 < s.2.2
  x : s.1 * b = p.1 * s.2.2
  y : s.2.1 * b = p.2 * s.2.2
def lessS (s t : Spot) : Bool := decide (s.1 * t.2.2 < t.1 * s.2.2) || (decide (s.1 * t.2.2 = t.1 * s.2.2) && decide (s.2.1 * t.2.2 < t.2.1 * s.2.2))
def turnS (a b c : Spot) : Int := (b.1 * a.2.2 - a.1 * b.2.2) * (c.2.1 * a.2.2 - a.2.1 * c.2.2) - (b.2.1 * a.2.2 - a.2.1 * b.2.2) * (c.1 * a.2.2 - a.1 * c.2.2)
theorem scale {b x y u v z w : Int} (hb : 0 < b) (hz : 0 < z) (hw : 0 < w) (h1 : x * b = u * z) (h2 : y * b = v * w) : (x * w < y * z ↔ u < v) ∧ (x * w = y * z ↔ u = v) := by
  have e1 : (x * w) * b = u * (z * w) := by rw [Int.mul_right_comm, h1, Int.mul_assoc]
  have e2 : (y * z) * b = v * (z * w) := by rw [Int.mul_right_comm, h2, Int.mul_assoc, Int.mul_comm w z]
  have hzw := Int.mul_pos hz hw
  constructor
  · rw [← Int.mul_lt_mul_right hb, e1, e2, Int.mul_lt_mul_right hzw]
  · constructor
    · intro h
      rw [h, e2] at e1
      exact (Int.eq_of_mul_eq_mul_right (by omega) e1).symm
    · intro h
      rw [h, ← e2] at e1
      exact Int.eq_of_mul_eq_mul_right (by omega) e1
theorem less_iff {b : Int} (hb : 0 < b) {s t : Spot} {p q : Pr} (hs : Rep b s p) (ht : Rep b t q) : lessS s t = true ↔ lt p q := by
  obtain ⟨a1, a2⟩ := scale hb hs.z ht.z hs.x ht.x
  obtain ⟨b1, b2⟩ := scale hb hs.z ht.z hs.y ht.y
  unfold lessS lt
  simp only [Bool.or_eq_true, Bool.and_eq_true, decide_eq_true_eq, a1, a2, b1]
theorem turn_scale {b : Int} {s t u : Spot} {p q r : Pr} (hs : Rep b s p) (ht : Rep b t q) (hu : Rep b u r) : (b * b) * turnS s t u = (s.2.2 * t.2.2 * (s.2.2 * u.2.2)) * turn p q r := by
  have k : ∀ {x y u v z w : Int}, x * b = u * z → y * b = v * w → (y * z - x * w) * b = (z * w) * (v - u) := by
    intro x y u v z w h1 h2
    have e1 : (x * w) * b = u * (z * w) := by rw [Int.mul_right_comm, h1, Int.mul_assoc]
    have e2 : (y * z) * b = v * (z * w) := by rw [Int.mul_right_comm, h2, Int.mul_assoc, Int.mul_comm w z]
    rw [Int.sub_mul, e1, e2, Int.mul_sub, Int.mul_comm v, Int.mul_comm u]
  have e1 := k hs.x ht.x
  have e2 := k hs.y hu.y
  have e3 := k hs.y ht.y
  have e4 := k hs.x hu.x
  have l : (b * b) * turnS s t u = ((t.1 * s.2.2 - s.1 * t.2.2) * b) * ((u.2.1 * s.2.2 - s.2.1 * u.2.2) * b) - ((t.2.1 * s.2.2 - s.2.1 * t.2.2) * b) * ((u.1 * s.2.2 - s.1 * u.2.2) * b) := by
    unfold turnS; grind
  rw [l, e1, e2, e3, e4]
  unfold turn
  grind
theorem turn_sign {b : Int} (hb : 0 < b) {s t u : Spot} {p q r : Pr} (hs : Rep b s p) (ht : Rep b t q) (hu : Rep b u r) : (turnS s t u < 0 ↔ turn p q r < 0) ∧ (turnS s t u = 0 ↔ turn p q r = 0) := by
  have h := turn_scale hs ht hu
  have k1 : 0 < b * b := Int.mul_pos hb hb
  have k2 : 0 < s.2.2 * t.2.2 * (s.2.2 * u.2.2) := Int.mul_pos (Int.mul_pos hs.z ht.z) (Int.mul_pos hs.z hu.z)
  generalize b * b = A at h k1
  generalize s.2.2 * t.2.2 * (s.2.2 * u.2.2) = C at h k2
  constructor
  · constructor
    · intro h1
      have := Int.mul_neg_of_pos_of_neg k1 h1
      rw [h] at this
      rcases Int.lt_or_le (turn p q r) 0 with h2 | h2
      · exact h2
      · have := Int.mul_nonneg (Int.le_of_lt k2) h2
        omega
    · intro h1
      have := Int.mul_neg_of_pos_of_neg k2 h1
      rw [← h] at this
      rcases Int.lt_or_le (turnS s t u) 0 with h2 | h2
      · exact h2
      · have := Int.mul_nonneg (Int.le_of_lt k1) h2
        omega
  · constructor
    · intro h1
      rw [h1, Int.mul_zero] at h
      rcases Int.mul_eq_zero.mp h.symm with z | z
      · omega
      · exact z
    · intro h1
      rw [h1, Int.mul_zero] at h
      rcases Int.mul_eq_zero.mp h with z | z
      · omega
      · exact z
/-- whether c lies from a to b -/
def btwS (a b c : Spot) : Bool := if lessS a b = true then !lessS c a && !lessS b c else !lessS c b && !lessS a c
theorem not_lt {p q : Pr} : ¬ lt p q ↔ le q p := by unfold lt le; omega
theorem less_false {b : Int} (hb : 0 < b) {s t : Spot} {p q : Pr} (hs : Rep b s p) (ht : Rep b t q) : lessS s t = false ↔ le q p := by
  rw [← not_lt, ← less_iff hb hs ht]
  simp
theorem btw_eq {b : Int} (hb : 0 < b) {s t u : Spot} {p q r : Pr} (hs : Rep b s p) (ht : Rep b t q) (hu : Rep b u r) : btwS s t u = isB p q r := by
  unfold btwS isB
  rw [Bool.eq_iff_iff]
  by_cases h : lt p q
  · rw [if_pos ((less_iff hb hs ht).mpr h), if_pos h]
    simp only [Bool.and_eq_true, Bool.not_eq_true', less_false hb hu hs, less_false hb ht hu, decide_eq_true_eq]
  · have : ¬ lessS s t = true := fun z => h ((less_iff hb hs ht).mp z)
    rw [if_neg this, if_neg h]
    simp only [Bool.and_eq_true, Bool.not_eq_true', less_false hb hu ht, less_false hb hs hu, decide_eq_true_eq]
def betterS (here best s : Spot) : Bool := !decide (s = here) && (decide (turnS here best s < 0) || (decide (turnS here best s = 0) && !btwS here best s))
def stepS (here : Spot) : List Spot → Spot → Spot
  | [], best => best
  | s :: l, best => stepS here l (if betterS here best s = true then s else best)
def wrapS (some_ : List Spot) (start : Spot) : Nat → Spot → List Spot → Option (List Spot)
  | 0, _, _ => none
  | n + 1, here, found => match some_.filter (fun s => !decide (s = here)) with
    | [] => none
    | b0 :: _ => if stepS here some_ b0 = start then some found else wrapS some_ start n (stepS here some_ b0) (found ++ [stepS here some_ b0])
def minS : List Spot → Spot → Spot
  | [], here => here
  | s :: l, here => minS l (if lessS s here = true then s else here)
section
variable {b : Int} (hb : 0 < b) {φ : Spot → Pr} {P : Spot → Prop} (hr : ∀ s, P s → Rep b s (φ s)) (inj : ∀ s t, P s → P t → φ s = φ t → s = t)
include hb hr inj
theorem better_eq {here best s : Spot} (h1 : P here) (h2 : P best) (h3 : P s) : betterS here best s = better (φ here) (φ best) (φ s) := by
  unfold betterS better
  obtain ⟨t1, t2⟩ := turn_sign hb (hr _ h1) (hr _ h2) (hr _ h3)
  rw [btw_eq hb (hr _ h1) (hr _ h2) (hr _ h3)]
  have e : (s = here) ↔ (φ s = φ here) := ⟨fun e => by rw [e], inj _ _ h3 h1⟩
  simp only [t1, t2, e]
theorem step_eq {here : Spot} (h1 : P here) : ∀ {l : List Spot} {best : Spot}, (∀ s ∈ l, P s) → P best → P (stepS here l best) ∧ φ (stepS here l best) = stepW (φ here) (l.map φ) (φ best) ∧ (stepS here l best = best ∨ stepS here l best ∈ l)
  | [], best, _, h2 => ⟨h2, rfl, .inl rfl⟩
  | s :: l, best, hl, h2 => by
    have hs := hl s List.mem_cons_self
    have hn : P (if betterS here best s = true then s else best) := by split <;> assumption
    obtain ⟨i1, i2, i3⟩ := step_eq h1 (l := l) (best := if betterS here best s = true then s else best) (fun s hs => hl s (List.mem_cons_of_mem _ hs)) hn
    unfold stepS
    refine ⟨i1, ?_, ?_⟩
    · rw [i2, List.map_cons]
      show _ = stepW (φ here) (l.map φ) (if better (φ here) (φ best) (φ s) = true then φ s else φ best)
      rw [better_eq hb hr inj h1 h2 hs]
      congr 1
      split <;> rfl
    · rcases i3 with e | e
      · rw [e]
        split
        · exact .inr List.mem_cons_self
        · exact .inl rfl
      · exact .inr (List.mem_cons_of_mem _ e)
theorem filter_eq {here : Spot} (h1 : P here) : ∀ {l : List Spot}, (∀ s ∈ l, P s) → (l.map φ).filter (fun s => !decide (s = φ here)) = (l.filter (fun s => !decide (s = here))).map φ
  | [], _ => rfl
  | s :: l, hl => by
    have e : (s = here) ↔ (φ s = φ here) := ⟨fun e => by rw [e], inj _ _ (hl s List.mem_cons_self) h1⟩
    have ih := filter_eq h1 (l := l) (fun s hs => hl s (List.mem_cons_of_mem _ hs))
    rw [List.map_cons, List.filter_cons, List.filter_cons, ih]
    by_cases h : s = here
    · simp [h]
    · have h2 : ¬ φ s = φ here := fun z => h (e.mpr z)
      simp [h, h2]
theorem wrap_eq {some_ : List Spot} (hl : ∀ s ∈ some_, P s) {start : Spot} (h0 : P start) : ∀ {n : Nat} {here : Spot} {found : List Spot} {C : List Pr}, P here → (∀ s ∈ found, P s) → wrapF (some_.map φ) (φ start) n (φ here) (found.map φ) = some C →
    ∃ S, wrapS some_ start n here found = some S ∧ S.map φ = C ∧ ∀ s ∈ S, P s
  | 0, _, _, _, _, _, e => by cases e
  | n + 1, here, found, C, h1, hf, e => by
    unfold wrapF at e
    rw [filter_eq hb hr inj h1 hl] at e
    unfold wrapS
    cases hk : some_.filter (fun s => !decide (s = here)) with
    | nil => rw [hk] at e; cases e
    | cons b0 r =>
      rw [hk, List.map_cons] at e
      dsimp only at e ⊢
      have hb0 : P b0 := by
        have : b0 ∈ some_.filter (fun s => !decide (s = here)) := by rw [hk]; exact List.mem_cons_self
        exact hl b0 (List.mem_filter.mp this).1
      obtain ⟨s1, s2, _⟩ := step_eq hb hr inj h1 hl hb0
      rw [← s2] at e
      by_cases hs : stepS here some_ b0 = start
      · rw [if_pos hs]
        rw [if_pos (by rw [hs])] at e
        cases e
        exact ⟨found, rfl, rfl, hf⟩
      · rw [if_neg hs]
        rw [if_neg (fun z => hs (inj _ _ s1 h0 z))] at e
        exact wrap_eq hl h0 s1 (fun s hs => by
          rcases List.mem_append.mp hs with hs | hs
          · exact hf s hs
          · simp at hs; subst hs; exact s1) (by rw [List.map_append]; exact e)
theorem min_spec : ∀ {l : List Spot} {here : Spot}, (∀ s ∈ l, P s) → P here → P (minS l here) ∧ (minS l here = here ∨ minS l here ∈ l) ∧ le (φ (minS l here)) (φ here) ∧ ∀ s ∈ l, le (φ (minS l here)) (φ s)
  | [], here, _, h => ⟨h, .inl rfl, le_refl _, fun s hs => by cases hs⟩
  | s :: l, here, hl, h => by
    have hs := hl s List.mem_cons_self
    have hn : P (if lessS s here = true then s else here) := by split <;> assumption
    obtain ⟨i1, i2, i3, i4⟩ := min_spec (l := l) (here := if lessS s here = true then s else here) (fun s hs => hl s (List.mem_cons_of_mem _ hs)) hn
    unfold minS
    by_cases hc : lessS s here = true
    · rw [if_pos hc] at i1 i2 i3 i4 ⊢
      have hlt := (less_iff hb (hr _ hs) (hr _ h)).mp hc
      refine ⟨i1, ?_, le_trans i3 (lt_le hlt), fun u hu => ?_⟩
      · rcases i2 with e | e
        · exact .inr (by rw [e]; exact List.mem_cons_self)
        · exact .inr (List.mem_cons_of_mem _ e)
      · rcases List.mem_cons.mp hu with rfl | hu
        · exact i3
        · exact i4 u hu
    · rw [if_neg hc] at i1 i2 i3 i4 ⊢
      have hle := (less_false hb (hr _ hs) (hr _ h)).mp (by simpa using hc)
      refine ⟨i1, ?_, i3, fun u hu => ?_⟩
      · rcases i2 with e | e
        · exact .inl e
        · exact .inr (List.mem_cons_of_mem _ e)
      · rcases List.mem_cons.mp hu with rfl | hu
        · exact le_trans i3 hle
        · exact i4 u hu
end
/-! plain spots -/
def gcd3 (s : Spot) : Nat := Nat.gcd (Nat.gcd s.1.natAbs s.2.1.natAbs) s.2.2.natAbs
def plainS (s : Spot) : Spot := (s.1.fdiv (gcd3 s : Nat), s.2.1.fdiv (gcd3 s : Nat), s.2.2.fdiv (gcd3 s : Nat))
def phi (b : Int) (s : Spot) : Pr := (s.1 * b / s.2.2, s.2.1 * b / s.2.2)
theorem Rep.phi_eq {b : Int} {s : Spot} {p : Pr} (h : Rep b s p) : phi b s = p := by
  have hz := h.z
  unfold phi
  rw [h.x, h.y, Int.mul_ediv_cancel _ (by omega), Int.mul_ediv_cancel _ (by omega)]
structure Pl (b : Int) (s : Spot) : Prop where
  rep : Rep b s (phi b s)
  one : gcd3 s = 1
theorem dvd_of {b : Int} (hb : 0 < b) {s t : Spot} {p : Pr} (hs : Rep b s p) (ht : Rep b t p) (h1 : gcd3 s = 1) : s.2.2.natAbs ∣ t.2.2.natAbs := by
  have hz := hs.z
  have cross : ∀ {x y u z w : Int}, x * b = u * z → y * b = u * w → x * w = y * z := fun {x y u z w} h1 h2 => by
    refine Int.eq_of_mul_eq_mul_right (a := b) (by omega) ?_
    rw [Int.mul_right_comm, h1, Int.mul_right_comm y, h2, Int.mul_right_comm]
  have c1 := cross hs.x ht.x
  have c2 := cross hs.y ht.y
  have d1 : s.2.2.natAbs ∣ s.1.natAbs * t.2.2.natAbs := by
    rw [← Int.natAbs_mul, c1, Int.natAbs_mul]
    exact Nat.dvd_mul_left _ _
  have d2 : s.2.2.natAbs ∣ s.2.1.natAbs * t.2.2.natAbs := by
    rw [← Int.natAbs_mul, c2, Int.natAbs_mul]
    exact Nat.dvd_mul_left _ _
  have d3 : s.2.2.natAbs ∣ s.2.2.natAbs * t.2.2.natAbs := Nat.dvd_mul_right _ _
  have := Nat.dvd_gcd (Nat.dvd_gcd d1 d2) d3
  rw [Nat.gcd_mul_right, Nat.gcd_mul_right] at this
  have h2 : Nat.gcd (Nat.gcd s.1.natAbs s.2.1.natAbs) s.2.2.natAbs = 1 := h1
  rw [h2, Nat.one_mul] at this
  exact this
theorem pl_inj {b : Int} (hb : 0 < b) (s t : Spot) (hs : Pl b s) (ht : Pl b t) (e : phi b s = phi b t) : s = t := by
  have r1 := hs.rep
  have r2 := ht.rep
  rw [← e] at r2
  have z1 := r1.z
  have z2 := r2.z
  have d := Nat.dvd_antisymm (dvd_of hb r1 r2 hs.one) (dvd_of hb r2 r1 ht.one)
  have ez : s.2.2 = t.2.2 := by omega
  have x1 := r1.x
  have x2 := r2.x
  have y1 := r1.y
  have y2 := r2.y
  rw [← ez] at x2 y2
  have ex : s.1 = t.1 := Int.eq_of_mul_eq_mul_right (a := b) (by omega) (x1.trans x2.symm)
  have ey : s.2.1 = t.2.1 := Int.eq_of_mul_eq_mul_right (a := b) (by omega) (y1.trans y2.symm)
  exact Prod.ext ex (Prod.ext ey ez)
theorem plain_ok {b : Int} {s : Spot} {p : Pr} (h : Rep b s p) : Pl b (plainS s) ∧ phi b (plainS s) = p := by
  have hz := h.z
  have hg : 0 < gcd3 s := Nat.gcd_pos_of_pos_right _ (by omega)
  obtain ⟨c1, e1⟩ : gcd3 s ∣ s.1.natAbs := Nat.dvd_trans (Nat.gcd_dvd_left _ _) (Nat.gcd_dvd_left _ _)
  obtain ⟨c2, e2⟩ : gcd3 s ∣ s.2.1.natAbs := Nat.dvd_trans (Nat.gcd_dvd_left _ _) (Nat.gcd_dvd_right _ _)
  obtain ⟨c3, e3⟩ : gcd3 s ∣ s.2.2.natAbs := Nat.gcd_dvd_right _ _
  have hx : ∀ {x : Int}, gcd3 s ∣ x.natAbs → x = (gcd3 s : Int) * x.fdiv (gcd3 s : Nat) := fun {x} hd => by
    rw [Int.fdiv_eq_ediv_of_nonneg _ (by omega)]
    exact (Int.mul_ediv_cancel' (Int.ofNat_dvd_left.mpr hd)).symm
  have f1 := hx ⟨c1, e1⟩
  have f2 := hx ⟨c2, e2⟩
  have f3 := hx ⟨c3, e3⟩
  generalize hG : (gcd3 s : Int) = g at f1 f2 f3
  have g0 : 0 < g := by omega
  have r : Rep b (plainS s) p := by
    unfold plainS
    rw [hG]
    refine ⟨?_, ?_, ?_⟩
    · show 0 < s.2.2.fdiv g
      rw [f3] at hz
      exact Int.pos_of_mul_pos_right hz g0
    · refine Int.eq_of_mul_eq_mul_left (a := g) (by omega) ?_
      show g * (s.1.fdiv g * b) = g * (p.1 * s.2.2.fdiv g)
      rw [← Int.mul_assoc, ← f1, h.x, Int.mul_left_comm, ← f3]
    · refine Int.eq_of_mul_eq_mul_left (a := g) (by omega) ?_
      show g * (s.2.1.fdiv g * b) = g * (p.2 * s.2.2.fdiv g)
      rw [← Int.mul_assoc, ← f2, h.y, Int.mul_left_comm, ← f3]
  have hp := r.phi_eq
  refine ⟨⟨by rw [hp]; exact r, ?_⟩, hp⟩
  have k : gcd3 s = gcd3 s * gcd3 (plainS s) := by
    have n1 : s.1.natAbs = gcd3 s * (s.1.fdiv (gcd3 s : Nat)).natAbs := by
      conv => lhs; rw [hx ⟨c1, e1⟩]
      rw [Int.natAbs_mul, Int.natAbs_natCast]
    have n2 : s.2.1.natAbs = gcd3 s * (s.2.1.fdiv (gcd3 s : Nat)).natAbs := by
      conv => lhs; rw [hx ⟨c2, e2⟩]
      rw [Int.natAbs_mul, Int.natAbs_natCast]
    have n3 : s.2.2.natAbs = gcd3 s * (s.2.2.fdiv (gcd3 s : Nat)).natAbs := by
      conv => lhs; rw [hx ⟨c3, e3⟩]
      rw [Int.natAbs_mul, Int.natAbs_natCast]
    have d : gcd3 s = Nat.gcd (Nat.gcd s.1.natAbs s.2.1.natAbs) s.2.2.natAbs := rfl
    generalize hG2 : gcd3 s = G at n1 n2 n3 d
    rw [n1, n2, n3, Nat.gcd_mul_left, Nat.gcd_mul_left] at d
    show G = G * Nat.gcd (Nat.gcd (s.1.fdiv (gcd3 s : Nat)).natAbs (s.2.1.fdiv (gcd3 s : Nat)).natAbs) (s.2.2.fdiv (gcd3 s : Nat)).natAbs
    rw [hG2]
    exact d
  have k2 : gcd3 s * gcd3 (plainS s) = gcd3 s * 1 := by omega
  exact Nat.eq_of_mul_eq_mul_left hg k2
/-! the law's own hull -/
def ddS : List Spot → List Spot → List Spot
  | [], acc => acc
  | s :: l, acc => ddS l (if plainS s ∈ acc then acc else acc ++ [plainS s])
def ownS (l : List Spot) : Option (List Spot) := match ddS l [] with
  | [] => some []
  | [a] => some [a]
  | a :: b :: r => wrapS (a :: b :: r) (minS (a :: b :: r) a) (a :: b :: r).length (minS (a :: b :: r) a) [minS (a :: b :: r) a]
theorem dd_spec {b : Int} : ∀ (l acc : List Spot), (∀ s ∈ l, ∃ p, Rep b s p) → acc.Nodup → (∀ s ∈ acc, Pl b s) → (ddS l acc).Nodup ∧ (∀ s ∈ ddS l acc, Pl b s) ∧ ∀ x, x ∈ (ddS l acc).map (phi b) ↔ x ∈ acc.map (phi b) ∨ x ∈ l.map (phi b)
  | [], acc, _, nd, hp => ⟨nd, hp, fun x => by simp [ddS]⟩
  | s :: l, acc, hl, nd, hp => by
    obtain ⟨p, r⟩ := hl s List.mem_cons_self
    obtain ⟨q1, q2⟩ := plain_ok r
    have q3 : phi b (plainS s) = phi b s := q2.trans r.phi_eq.symm
    unfold ddS
    by_cases hm : plainS s ∈ acc
    · rw [if_pos hm]
      obtain ⟨h1, h2, h3⟩ := dd_spec l acc (fun s hs => hl s (List.mem_cons_of_mem _ hs)) nd hp
      refine ⟨h1, h2, fun x => ?_⟩
      rw [h3, List.map_cons, List.mem_cons]
      constructor
      · rintro (z | z) <;> simp [z]
      · rintro (z | z | z)
        · simp [z]
        · left
          rw [z, ← q3]
          exact List.mem_map.mpr ⟨_, hm, rfl⟩
        · exact .inr z
    · rw [if_neg hm]
      obtain ⟨h1, h2, h3⟩ := dd_spec l (acc ++ [plainS s]) (fun s hs => hl s (List.mem_cons_of_mem _ hs)) (by
        rw [List.nodup_append]
        exact ⟨nd, List.pairwise_singleton _ _, fun a ha c hc e => by simp at hc; subst hc; subst e; exact hm ha⟩) (fun t ht => by
        rcases List.mem_append.mp ht with ht | ht
        · exact hp t ht
        · simp at ht; subst ht; exact q1)
      refine ⟨h1, h2, fun x => ?_⟩
      rw [h3, List.map_append, List.mem_append, List.map_cons, List.map_nil, List.mem_singleton, q3, List.map_cons, List.mem_cons, or_assoc]
theorem nodup_map {b : Int} (hb : 0 < b) {l : List Spot} (nd : l.Nodup) (hp : ∀ s ∈ l, Pl b s) : (l.map (phi b)).Nodup := by
  induction l with
  | nil => exact .nil
  | cons s l ih =>
    obtain ⟨n1, n2⟩ := List.nodup_cons.mp nd
    rw [List.map_cons, List.nodup_cons]
    refine ⟨fun hm => ?_, ih n2 fun t ht => hp t (List.mem_cons_of_mem _ ht)⟩
    obtain ⟨t, ht, e⟩ := List.mem_map.mp hm
    have := pl_inj hb t s (hp t (List.mem_cons_of_mem _ ht)) (hp s List.mem_cons_self) e
    subst this
    exact n1 ht
/-- the law's own hull has the corners of the sorted pairs -/
theorem own_ok {b : Int} (hb : 0 < b) {l : List Spot} (hl : ∀ s ∈ l, ∃ p, Rep b s p) : ∃ S, ownS l = some S ∧ S.map (phi b) = hullF (Hp.srt (l.map (phi b))) ∧ ∀ s ∈ S, Pl b s := by
  obtain ⟨d1, d2, d3⟩ := dd_spec l [] hl .nil (fun s hs => by cases hs)
  obtain ⟨t1, t2⟩ := Hp.srt_spec (l.map (phi b))
  have d3' : ∀ x, x ∈ Hp.srt (l.map (phi b)) ↔ x ∈ (ddS l []).map (phi b) := fun x => by rw [t2, d3]; simp
  have dn := nodup_map hb d1 d2
  unfold ownS
  generalize ddS l [] = so at d1 d2 d3' dn
  generalize Hp.srt (l.map (phi b)) = D at t1 d3'
  match so, d1, d2, d3', dn with
  | [], _, _, d3', _ =>
    cases D with
    | nil => exact ⟨[], rfl, rfl, fun s hs => by cases hs⟩
    | cons x D => exact absurd ((d3' x).mp List.mem_cons_self) (by simp)
  | [a], _, d2, d3', _ =>
    cases D with
    | nil => exact absurd ((d3' (phi b a)).mpr (by simp)) (by simp)
    | cons x D =>
      have hx : x = phi b a := by simpa using (d3' x).mp List.mem_cons_self
      cases D with
      | nil => exact ⟨[a], rfl, by rw [hx]; rfl, d2⟩
      | cons y D =>
        have hy : y = phi b a := by simpa using (d3' y).mp (by simp)
        have := (List.pairwise_cons.mp t1).1 y List.mem_cons_self
        rw [hx, hy] at this
        exact (lt_irrefl this).elim
  | a :: c :: r, d1, d2, d3', dn =>
    have hlen : D.length = (a :: c :: r).length := by
      have n1 := nodup_len (nodup_lt t1) (fun x hx => (d3' x).mp hx)
      have n2 := nodup_len dn (fun x hx => (d3' x).mpr hx)
      rw [List.length_map] at n1 n2
      omega
    match D, t1, d3', hlen with
    | [], _, _, h => simp at h
    | [_], _, _, h => simp at h
    | p :: q :: D, t1, d3', hlen =>
      obtain ⟨t, h1, h2, h3, h4⟩ := hull_closed t1
      have inj := pl_inj hb
      have hr : ∀ s, Pl b s → Rep b s (phi b s) := fun s h => h.rep
      obtain ⟨m1, m2, m3, m4⟩ := min_spec hb hr inj (l := a :: c :: r) (here := a) d2 (d2 a List.mem_cons_self)
      have mm : minS (a :: c :: r) a ∈ a :: c :: r := by
        rcases m2 with e | e
        · rw [e]; exact List.mem_cons_self
        · exact e
      have hp : phi b (minS (a :: c :: r) a) = p := by
        have pm : p ∈ (a :: c :: r).map (phi b) := (d3' p).mp List.mem_cons_self
        obtain ⟨s, hs, e⟩ := List.mem_map.mp pm
        have k1 := m4 s hs
        rw [e] at k1
        have k2 : phi b (minS (a :: c :: r) a) ∈ p :: q :: D := (d3' _).mpr (List.mem_map.mpr ⟨_, mm, rfl⟩)
        have k3 : le p (phi b (minS (a :: c :: r) a)) := by
          rcases List.mem_cons.mp k2 with e | k2
          · rw [e]; exact le_refl _
          · exact lt_le ((List.pairwise_cons.mp t1).1 _ k2)
        exact le_antisymm k1 k3
      have w := wrap_ok (some_ := (a :: c :: r).map (phi b)) (fun x => (d3' x).symm) (x := p) (t := t) (n := (a :: c :: r).length) (here := p) (found := [p]) h2.way h2.once (by rw [← hlen]; omega)
      rw [← hp] at w
      obtain ⟨S, w1, w2, w3⟩ := wrap_eq hb hr inj (some_ := a :: c :: r) d2 m1 m1 (found := [minS (a :: c :: r) a]) (fun s hs => by simp at hs; subst hs; exact m1) w
      refine ⟨S, w1, ?_, w3⟩
      rw [w2, h1, hp]
      rfl
/-! lowest terms -/
def nrm (t b : Int) : Int × Int := (t / (Nat.gcd t.natAbs b.natAbs : Nat), b / (Nat.gcd t.natAbs b.natAbs : Nat))
theorem nrm_spec {t b : Int} (hb : 0 < b) : ∃ g : Int, 0 < g ∧ t = g * (nrm t b).1 ∧ b = g * (nrm t b).2 ∧ 0 < (nrm t b).2 ∧ Nat.gcd (nrm t b).1.natAbs (nrm t b).2.natAbs = 1 := by
  have hg : 0 < Nat.gcd t.natAbs b.natAbs := Nat.gcd_pos_of_pos_right _ (by omega)
  have e1 : t = (Nat.gcd t.natAbs b.natAbs : Nat) * (nrm t b).1 := (Int.mul_ediv_cancel' (Int.ofNat_dvd_left.mpr (Nat.gcd_dvd_left _ _))).symm
  have e2 : b = (Nat.gcd t.natAbs b.natAbs : Nat) * (nrm t b).2 := (Int.mul_ediv_cancel' (Int.ofNat_dvd_left.mpr (Nat.gcd_dvd_right _ _))).symm
  refine ⟨_, by omega, e1, e2, ?_, ?_⟩
  · exact Int.pos_of_mul_pos_right (by rw [← e2]; exact hb) (by omega)
  · have n1 := congrArg Int.natAbs e1
    have n2 := congrArg Int.natAbs e2
    rw [Int.natAbs_mul, Int.natAbs_natCast] at n1 n2
    have d : Nat.gcd t.natAbs b.natAbs = Nat.gcd t.natAbs b.natAbs := rfl
    generalize hG : Nat.gcd t.natAbs b.natAbs = G at n1 n2 hg
    have d : G = Nat.gcd t.natAbs b.natAbs := hG.symm
    rw [n1, n2, Nat.gcd_mul_left] at d
    have : G * Nat.gcd (nrm t b).1.natAbs (nrm t b).2.natAbs = G * 1 := by omega
    exact Nat.eq_of_mul_eq_mul_left hg this
/-- a fraction has one lowest form -/
theorem low_uniq {t b u c : Int} (hb : 0 < b) (hc : 0 < c) (h1 : Nat.gcd t.natAbs b.natAbs = 1) (h2 : Nat.gcd u.natAbs c.natAbs = 1) (e : t * c = u * b) : t = u ∧ b = c := by
  have d1 : b.natAbs ∣ c.natAbs := by
    have : b.natAbs ∣ t.natAbs * c.natAbs := by
      rw [← Int.natAbs_mul, e, Int.natAbs_mul]
      exact Nat.dvd_mul_left _ _
    exact Nat.Coprime.dvd_of_dvd_mul_left (by rw [Nat.coprime_iff_gcd_eq_one, Nat.gcd_comm]; exact h1) this
  have d2 : c.natAbs ∣ b.natAbs := by
    have : c.natAbs ∣ u.natAbs * b.natAbs := by
      rw [← Int.natAbs_mul, ← e, Int.natAbs_mul]
      exact Nat.dvd_mul_left _ _
    exact Nat.Coprime.dvd_of_dvd_mul_left (by rw [Nat.coprime_iff_gcd_eq_one, Nat.gcd_comm]; exact h2) this
  have d := Nat.dvd_antisymm d1 d2
  have eb : b = c := by omega
  refine ⟨?_, eb⟩
  rw [eb] at e
  exact Int.eq_of_mul_eq_mul_right (by omega) e
theorem nrm_eq {t b u c : Int} (hb : 0 < b) (hc : 0 < c) (e : t * c = u * b) : nrm t b = nrm u c := by
  obtain ⟨g, g0, a1, a2, a3, a4⟩ := nrm_spec (t := t) hb
  obtain ⟨k, k0, b1, b2, b3, b4⟩ := nrm_spec (t := u) hc
  have : (nrm t b).1 * (nrm u c).2 = (nrm u c).1 * (nrm t b).2 := by
    have e' : g * (nrm t b).1 * (k * (nrm u c).2) = k * (nrm u c).1 * (g * (nrm t b).2) := by
      rw [← a1, ← b2, ← b1, ← a2]
      exact e
    have e2 : (g * k) * ((nrm t b).1 * (nrm u c).2) = (g * k) * ((nrm u c).1 * (nrm t b).2) := by
      have l : g * (nrm t b).1 * (k * (nrm u c).2) = (g * k) * ((nrm t b).1 * (nrm u c).2) := by grind
      have r : k * (nrm u c).1 * (g * (nrm t b).2) = (g * k) * ((nrm u c).1 * (nrm t b).2) := by grind
      rw [← l, ← r]
      exact e'
    have gk := Int.mul_pos g0 k0
    exact Int.eq_of_mul_eq_mul_left (by omega) e2
  obtain ⟨x, y⟩ := low_uniq a3 b3 a4 b4 this
  exact Prod.ext x y
end Hs
set_option maxHeartbeats 200000
/-! hulls of points -/
namespace Hu
theorem hull_again (l : List Pr) : hullF (Hp.srt (hullF (Hp.srt l))) = hullF (Hp.srt l) := by
  obtain ⟨s1, s2⟩ := Hp.srt_spec l
  generalize Hp.srt l = D at s1
  match D, s1 with
  | [], _ => rfl
  | [a], _ =>
    obtain ⟨t1, t2⟩ := Hp.srt_spec [a]
    have : Hp.srt [a] = [a] := rfl
    show hullF (Hp.srt [a]) = [a]
    rw [this]
    rfl
  | p :: q :: D, s1 =>
    obtain ⟨t, h1, h2, h3, h4⟩ := hull_closed s1
    rw [h1]
    obtain ⟨t1, t2⟩ := Hp.srt_spec (p :: t)
    have hp : ∀ c ∈ p :: t, le p c := fun c hc => by
      rcases List.mem_cons.mp (h4 c hc) with rfl | hc
      · exact le_refl _
      · exact lt_le ((List.pairwise_cons.mp s1).1 c hc)
    generalize Hp.srt (p :: t) = E at t1 t2
    match E, t1, t2 with
    | [], _, t2 => exact absurd ((t2 p).mpr List.mem_cons_self) (by simp)
    | [x], _, t2 =>
      cases t with
      | nil => exact absurd rfl h2.way.1.ne
      | cons b t =>
        have e1 : p = x := by simpa using (t2 p).mpr (by simp)
        have e2 : b = x := by simpa using (t2 b).mpr (by simp)
        exact absurd (e1.trans e2.symm) h2.way.1.ne
    | p' :: q' :: E, t1, t2 =>
      obtain ⟨t', k1, k2, k3, k4⟩ := hull_closed t1
      have e : p' = p := by
        have a1 : le p p' := hp p' ((t2 p').mp List.mem_cons_self)
        have a2 : p ∈ p' :: q' :: E := (t2 p).mpr List.mem_cons_self
        have a3 : le p' p := by
          rcases List.mem_cons.mp a2 with e | a2
          · rw [e]; exact le_refl _
          · exact lt_le ((List.pairwise_cons.mp t1).1 p a2)
        exact le_antisymm a3 a1
      subst e
      have restr : ∀ {l : List Pr}, (∀ x ∈ l, x ∈ p' :: t) → Fwd (Nx (p' :: q :: D)) l → Fwd (Nx (p' :: q' :: E)) l := by
        intro l
        induction l with
        | nil => intro _ _; trivial
        | cons x l ih =>
          cases l with
          | nil => intro _ _; trivial
          | cons y l =>
            intro hl f
            refine ⟨⟨(t2 y).mpr (hl y (by simp)), f.1.ne, fun c hc => f.1.edge c (h4 c ((t2 c).mp hc))⟩, ih (fun x hx => hl x (List.mem_cons_of_mem _ hx)) f.2⟩
      have c2 : Closed (p' :: q' :: E) p' t := ⟨restr (fun x hx => by
        rcases List.mem_append.mp hx with hx | hx
        · exact hx
        · simp at hx; subst hx; exact List.mem_cons_self) h2.way, h2.once⟩
      rw [k1, c2.uniq k2]
theorem hull_sub {l : List Pr} : (∀ x ∈ hullF (Hp.srt l), x ∈ l) ∧ (hullF (Hp.srt l)).length ≤ l.length := by
  obtain ⟨s1, s2⟩ := Hp.srt_spec l
  have hlen : (Hp.srt l).length ≤ l.length := nodup_len (nodup_lt s1) (fun x hx => (s2 x).mp hx)
  generalize Hp.srt l = D at s1 s2 hlen
  match D, s1, s2, hlen with
  | [], _, _, h => exact ⟨fun x hx => (nomatch hx), h⟩
  | [a], _, s2, h => exact ⟨fun x hx => (s2 x).mp hx, h⟩
  | p :: q :: D, s1, s2, h =>
    obtain ⟨t, h1, h2, h3, h4⟩ := hull_closed s1
    rw [h1]
    refine ⟨fun x hx => (s2 x).mp (h4 x hx), ?_⟩
    show t.length + 1 ≤ _
    omega
theorem srt_ext {l m : List Pr} (h : ∀ x, x ∈ l ↔ x ∈ m) : Hp.srt l = Hp.srt m := by
  obtain ⟨a1, a2⟩ := Hp.srt_spec l
  obtain ⟨b1, b2⟩ := Hp.srt_spec m
  have key : ∀ {u v : List Pr}, Srt u → Srt v → (∀ x, x ∈ u ↔ x ∈ v) → u = v := by
    intro u
    induction u with
    | nil =>
      intro v _ _ e
      cases v with
      | nil => rfl
      | cons y v => exact absurd ((e y).mpr List.mem_cons_self) (by simp)
    | cons x u ih =>
      intro v su sv e
      cases v with
      | nil => exact absurd ((e x).mp List.mem_cons_self) (by simp)
      | cons y v =>
        obtain ⟨u1, u2⟩ := List.pairwise_cons.mp su
        obtain ⟨v1, v2⟩ := List.pairwise_cons.mp sv
        have exy : x = y := by
          rcases List.mem_cons.mp ((e x).mp List.mem_cons_self) with z | z
          · exact z
          · rcases List.mem_cons.mp ((e y).mpr List.mem_cons_self) with w | w
            · exact w.symm
            · exact (lt_irrefl (lt_trans (v1 x z) (u1 y w))).elim
        subst exy
        rw [ih u2 v2 fun z => ?_]
        constructor
        · intro hz
          rcases List.mem_cons.mp ((e z).mp (List.mem_cons_of_mem _ hz)) with w | w
          · subst w; exact (lt_irrefl (u1 z hz)).elim
          · exact w
        · intro hz
          rcases List.mem_cons.mp ((e z).mpr (List.mem_cons_of_mem _ hz)) with w | w
          · subst w; exact (lt_irrefl (v1 z hz)).elim
          · exact w
  exact key a1 b1 fun x => by rw [a2, b2, h]
end Hu
namespace Hp
open Hu Hs Vy
/-- a point whose bottoms divide M, its numbers small -/
structure Bd (M : Int) (p : Mr.Pt) : Prop where
  z1 : 0 < p.1.2
  g1 : Nat.gcd p.1.1.natAbs p.1.2.natAbs = 1
  d1 : p.1.2 ∣ M
  n1 : p.1.1.natAbs ≤ 2 ^ 20
  z2 : 0 < p.2.2
  g2 : Nat.gcd p.2.1.natAbs p.2.2.natAbs = 1
  d2 : p.2.2 ∣ M
  n2 : p.2.1.natAbs ≤ 2 ^ 20
theorem lcm_step {f d M : Int} (hf : 0 < f) (hd : 0 < d) (h1 : f ∣ M) (h2 : d ∣ M) : 0 < f.fdiv (Nat.gcd f.natAbs d.natAbs : Nat) * d ∧ f ∣ f.fdiv (Nat.gcd f.natAbs d.natAbs : Nat) * d ∧ d ∣ f.fdiv (Nat.gcd f.natAbs d.natAbs : Nat) * d ∧ f.fdiv (Nat.gcd f.natAbs d.natAbs : Nat) * d ∣ M := by
  have hg : 0 < Nat.gcd f.natAbs d.natAbs := Nat.gcd_pos_of_pos_right _ (by omega)
  rw [Int.fdiv_eq_ediv_of_nonneg _ (by omega)]
  have ea : f = (Nat.gcd f.natAbs d.natAbs : Nat) * (f / (Nat.gcd f.natAbs d.natAbs : Nat)) := (Int.mul_ediv_cancel' (Int.ofNat_dvd_left.mpr (Nat.gcd_dvd_left _ _))).symm
  have eb : d = (Nat.gcd f.natAbs d.natAbs : Nat) * (d / (Nat.gcd f.natAbs d.natAbs : Nat)) := (Int.mul_ediv_cancel' (Int.ofNat_dvd_left.mpr (Nat.gcd_dvd_right _ _))).symm
  have co : Nat.gcd (f / (Nat.gcd f.natAbs d.natAbs : Nat)).natAbs (d / (Nat.gcd f.natAbs d.natAbs : Nat)).natAbs = 1 := by
    obtain ⟨g, _, _, _, _, h⟩ := nrm_spec (t := f) hd
    exact h
  generalize f / (Nat.gcd f.natAbs d.natAbs : Nat) = a at ea co
  generalize d / (Nat.gcd f.natAbs d.natAbs : Nat) = c at eb co
  have g0 : (0 : Int) < (Nat.gcd f.natAbs d.natAbs : Nat) := by omega
  generalize ((Nat.gcd f.natAbs d.natAbs : Nat) : Int) = g at ea eb g0
  have a0 : 0 < a := Int.pos_of_mul_pos_right (by rw [← ea]; exact hf) g0
  refine ⟨Int.mul_pos a0 hd, ?_, Int.dvd_mul_left _ _, ?_⟩
  · refine ⟨c, ?_⟩
    rw [ea]
    conv => lhs; rw [eb]
    grind
  · obtain ⟨k, hk⟩ := h1
    obtain ⟨j, hj⟩ := h2
    have e1 : a * k = c * j := by
      have : g * (a * k) = g * (c * j) := by
        rw [← Int.mul_assoc, ← ea, ← hk, hj]
        conv => lhs; rw [eb]
        grind
      exact Int.eq_of_mul_eq_mul_left (by omega) this
    have hc : c.natAbs ∣ k.natAbs := by
      have : c.natAbs ∣ a.natAbs * k.natAbs := by
        rw [← Int.natAbs_mul, e1, Int.natAbs_mul]
        exact Nat.dvd_mul_right _ _
      exact Nat.Coprime.dvd_of_dvd_mul_left (by rw [Nat.coprime_iff_gcd_eq_one, Nat.gcd_comm]; exact co) this
    obtain ⟨m, hm⟩ := Int.natAbs_dvd_natAbs.mp hc
    refine ⟨m, ?_⟩
    rw [hk, hm]
    conv => lhs; rw [ea]
    conv => rhs; rw [eb]
    grind
theorem fI1 {β : Type} (i : Int) (k : Int → β) : Mr.fI i k = k i := fI_eq i k
theorem small_nat {i : Int} (h0 : 0 ≤ i) (h1 : i ≤ 2 ^ 62) : i.natAbs < 2 ^ 1100 := by
  have := pw
  omega
theorem small_abs {i : Int} (h1 : i.natAbs ≤ 2 ^ 62) : i.natAbs < 2 ^ 1100 := by
  have := pw
  omega
theorem fdivO_some {i j : Int} (h0 : 0 < j) (h1 : j ≤ 2 ^ 62) : Mr.fdivO i j = some (i.fdiv j) := by
  unfold Mr.fdivO
  rw [dv_true (by omega) (small_nat (by omega) h1)]
  exact fI1 _ _
theorem mulO_some {i j : Int} (h1 : i.natAbs ≤ 2 ^ 62) (h2 : j.natAbs ≤ 2 ^ 62) : Mr.mulO i j = some (i * j) := by
  unfold Mr.mulO
  rw [sm_true (small_abs h1) (small_abs h2)]
  exact fI1 _ _
theorem frO_some {t b : Int} (h0 : 0 < b) (h1 : b ≤ 2 ^ 62) : Mr.frO t b = some (nrm t b) := by
  unfold Mr.frO
  rw [dv_true (by omega) (small_nat (by omega) h1)]
  simp only [fN_eq, fI_eq, posI_eq, h0, decide_true]
  have e : ∀ x : Int, x.fdiv (Int.ofNat (Nat.gcd t.natAbs b.natAbs)) = x / (Nat.gcd t.natAbs b.natAbs : Nat) := fun x => Int.fdiv_eq_ediv_of_nonneg _ (by simp)
  rw [e, e]
  rfl
section
variable {M : Int} (hM : 0 < M) (hM2 : M ≤ 2 ^ 20)
include hM hM2
theorem le_M {d : Int} (h : d ∣ M) : d ≤ M := Int.le_of_dvd hM h
theorem one_fr {f : Int} {x : Mr.Fr} (hf : 0 < f) (h1 : f ∣ M) (hz : 0 < x.2) (hd : x.2 ∣ M) : ∃ r, Mr.oneBottomFr f x = some r ∧ 0 < r ∧ f ∣ r ∧ x.2 ∣ r ∧ r ∣ M := by
  obtain ⟨a1, a2, a3, a4⟩ := lcm_step hf hz h1 hd
  have b1 := le_M hM hM2 h1
  have b2 := le_M hM hM2 hd
  have hg : 0 < Nat.gcd f.natAbs x.2.natAbs := Nat.gcd_pos_of_pos_right _ (by omega)
  have hg2 : Nat.gcd f.natAbs x.2.natAbs ≤ x.2.natAbs := Nat.gcd_le_right _ (by omega)
  refine ⟨_, ?_, a1, a2, a3, a4⟩
  unfold Mr.oneBottomFr
  rw [fI1, fdivO_some (by show (0 : Int) < (Nat.gcd f.natAbs x.2.natAbs : Nat); omega) (by show ((Nat.gcd f.natAbs x.2.natAbs : Nat) : Int) ≤ _; omega), Option.bind_some]
  refine mulO_some ?_ (by omega)
  show (f.fdiv (Nat.gcd f.natAbs x.2.natAbs : Nat)).natAbs ≤ _
  rw [Int.fdiv_eq_ediv_of_nonneg _ (by omega)]
  have := Int.ediv_le_self ((Nat.gcd f.natAbs x.2.natAbs : Nat) : Int) (Int.le_of_lt hf)
  have := Int.ediv_nonneg (Int.le_of_lt hf) (show (0 : Int) ≤ (Nat.gcd f.natAbs x.2.natAbs : Nat) by omega)
  omega
theorem oneL_some : ∀ {S : List Mr.Pt} {f : Int}, (∀ p ∈ S, Bd M p) → 0 < f → f ∣ M → ∃ r, Mr.oneBottomL S f = some r ∧ 0 < r ∧ f ∣ r ∧ r ∣ M ∧ ∀ p ∈ S, p.1.2 ∣ r ∧ p.2.2 ∣ r
  | [], f, _, h0, h1 => ⟨f, rfl, h0, Int.dvd_refl _, h1, fun p hp => nomatch hp⟩
  | p :: S, f, hS, h0, h1 => by
    have hp := hS p List.mem_cons_self
    obtain ⟨r1, e1, a1, a2, a3, a4⟩ := one_fr hM hM2 h0 h1 hp.z1 hp.d1
    obtain ⟨r2, e2, b1, b2, b3, b4⟩ := one_fr hM hM2 a1 a4 hp.z2 hp.d2
    obtain ⟨r, e3, c1, c2, c3, c4⟩ := oneL_some (S := S) (f := r2) (fun q hq => hS q (List.mem_cons_of_mem _ hq)) b1 b4
    refine ⟨r, ?_, c1, Int.dvd_trans a2 (Int.dvd_trans b2 c2), c3, fun q hq => ?_⟩
    · unfold Mr.oneBottomL
      rw [e1, Option.bind_some, e2, Option.bind_some]
      exact e3
    · rcases List.mem_cons.mp hq with rfl | hq
      · exact ⟨Int.dvd_trans a3 (Int.dvd_trans b2 c2), Int.dvd_trans b3 c2⟩
      · exact c4 q hq
/-- a point over a bottom -/
def sc (b : Int) (p : Mr.Pt) : Pr := (p.1.1 * (b / p.1.2), p.2.1 * (b / p.2.2))
def un (b : Int) (p : Pr) : Mr.Pt := (nrm p.1 b, nrm p.2 b)
def spot (p : Mr.Pt) : Spot := (p.1.1 * p.2.2, p.2.1 * p.1.2, p.1.2 * p.2.2)
def ptS (s : Spot) : Mr.Pt := (nrm s.1 s.2.2, nrm s.2.1 s.2.2)
omit hM hM2 in
theorem rep_spot {b : Int} {p : Mr.Pt} (z1 : 0 < p.1.2) (z2 : 0 < p.2.2) (d1 : p.1.2 ∣ b) (d2 : p.2.2 ∣ b) : Rep b (spot p) (sc b p) := by
  have e1 := Int.mul_ediv_cancel' d1
  have e2 := Int.mul_ediv_cancel' d2
  refine ⟨Int.mul_pos z1 z2, ?_, ?_⟩
  · show p.1.1 * p.2.2 * b = p.1.1 * (b / p.1.2) * (p.1.2 * p.2.2)
    conv => lhs; rw [← e1]
    grind
  · show p.2.1 * p.1.2 * b = p.2.1 * (b / p.2.2) * (p.1.2 * p.2.2)
    conv => lhs; rw [← e2]
    grind
omit hM hM2 in
theorem un_sc {b : Int} (hb : 0 < b) {p : Mr.Pt} (h : Bd M p) (d1 : p.1.2 ∣ b) (d2 : p.2.2 ∣ b) : un b (sc b p) = p := by
  have low : ∀ {t z : Int}, 0 < z → Nat.gcd t.natAbs z.natAbs = 1 → nrm t z = (t, z) := fun {t z} hz hg => by
    unfold nrm
    rw [hg]
    simp
  have e1 := Int.mul_ediv_cancel' d1
  have e2 := Int.mul_ediv_cancel' d2
  have n1 : nrm (p.1.1 * (b / p.1.2)) b = nrm p.1.1 p.1.2 := nrm_eq hb h.z1 (by conv => rhs; rw [← e1]
                                                                                grind)
  have n2 : nrm (p.2.1 * (b / p.2.2)) b = nrm p.2.1 p.2.2 := nrm_eq hb h.z2 (by conv => rhs; rw [← e2]
                                                                                grind)
  show (nrm (p.1.1 * (b / p.1.2)) b, nrm (p.2.1 * (b / p.2.2)) b) = p
  rw [n1, n2, low h.z1 h.g1, low h.z2 h.g2]
theorem sc_small {b : Int} (hb : 0 < b) (hd : b ∣ M) {p : Mr.Pt} (h : Bd M p) (d1 : p.1.2 ∣ b) (d2 : p.2.2 ∣ b) : Sm (sc b p) ∧ (b / p.1.2).natAbs ≤ 2 ^ 20 ∧ (b / p.2.2).natAbs ≤ 2 ^ 20 := by
  have hbM := le_M hM hM2 hd
  have q : ∀ {z : Int}, 0 < z → (b / z).natAbs ≤ 2 ^ 20 := fun {z} hz => by
    have := Int.ediv_le_self z (Int.le_of_lt hb)
    have := Int.ediv_nonneg (Int.le_of_lt hb) (Int.le_of_lt hz)
    omega
  have m : ∀ {x y : Int}, x.natAbs ≤ 2 ^ 20 → y.natAbs ≤ 2 ^ 20 → (x * y).natAbs ≤ 2 ^ 62 := fun {x y} hx hy => by
    rw [Int.natAbs_mul]
    exact Nat.le_trans (Nat.mul_le_mul hx hy) (by decide)
  exact ⟨⟨m h.n1 (q h.z1), m h.n2 (q h.z2)⟩, q h.z1, q h.z2⟩
theorem scaled_some {b : Int} (hb : 0 < b) (hd : b ∣ M) : ∀ {S : List Mr.Pt}, (∀ p ∈ S, Bd M p) → (∀ p ∈ S, p.1.2 ∣ b ∧ p.2.2 ∣ b) → Mr.scaledO S b = some (S.map (sc b))
  | [], _, _ => rfl
  | p :: S, h, g => by
    have hp := h p List.mem_cons_self
    obtain ⟨g1, g2⟩ := g p List.mem_cons_self
    obtain ⟨_, q1, q2⟩ := sc_small hM hM2 hb hd hp g1 g2
    have ih := scaled_some hb hd (S := S) (fun q hq => h q (List.mem_cons_of_mem _ hq)) (fun q hq => g q (List.mem_cons_of_mem _ hq))
    have l1 := le_M hM hM2 hp.d1
    have l2 := le_M hM hM2 hp.d2
    have n1 := hp.n1
    have n2 := hp.n2
    unfold Mr.scaledO
    rw [fdivO_some hp.z1 (by omega), Option.bind_some, Int.fdiv_eq_ediv_of_nonneg _ (Int.le_of_lt hp.z1), mulO_some (by omega) (by omega), Option.bind_some, fdivO_some hp.z2 (by omega), Option.bind_some, Int.fdiv_eq_ediv_of_nonneg _ (Int.le_of_lt hp.z2), mulO_some (by omega) (by omega), Option.bind_some, ih, Option.bind_some]
    rfl
omit hM hM2 in
theorem unscaled_some {b : Int} (hb : 0 < b) (h2 : b ≤ 2 ^ 62) : ∀ {L : List Pr}, Mr.unscaledO L b = some (L.map (un b))
  | [] => rfl
  | p :: L => by
    unfold Mr.unscaledO
    rw [frO_some hb h2, Option.bind_some, frO_some hb h2, Option.bind_some, unscaled_some hb h2, Option.bind_some]
    rfl
/-- the law's hull of points -/
def dueP (S : List Mr.Pt) : Option (List Mr.Pt) := (ownS (S.map spot)).map fun l => l.map ptS
theorem due_of {b : Int} (hb : 0 < b) {S : List Mr.Pt} (h : ∀ p ∈ S, Bd M p) (g : ∀ p ∈ S, p.1.2 ∣ b ∧ p.2.2 ∣ b) : dueP S = some ((hullF (srt (S.map (sc b)))).map (un b)) := by
  have rp : ∀ p ∈ S, Rep b (spot p) (sc b p) := fun p hp => rep_spot (h p hp).z1 (h p hp).z2 (g p hp).1 (g p hp).2
  obtain ⟨T, e1, e2, e3⟩ := own_ok hb (l := S.map spot) (fun s hs => by
    obtain ⟨p, hp, rfl⟩ := List.mem_map.mp hs
    exact ⟨_, rp p hp⟩)
  have e4 : (S.map spot).map (phi b) = S.map (sc b) := by
    rw [List.map_map]
    exact List.map_congr_left fun p hp => (rp p hp).phi_eq
  unfold dueP
  rw [e1, Option.map_some, ← e4, ← e2, List.map_map]
  congr 1
  refine List.map_congr_left fun s hs => ?_
  have r := (e3 s hs).rep
  show (nrm s.1 s.2.2, nrm s.2.1 s.2.2) = (nrm (phi b s).1 b, nrm (phi b s).2 b)
  rw [nrm_eq r.z hb r.x, nrm_eq r.z hb r.y]
theorem hullO_some {S : List Mr.Pt} (h : ∀ p ∈ S, Bd M p) (hl : S.length ≤ 1000) : ∃ b, 0 < b ∧ b ∣ M ∧ (∀ p ∈ S, p.1.2 ∣ b ∧ p.2.2 ∣ b) ∧ Mr.hullO S = some ((hullF (srt (S.map (sc b)))).map (un b)) := by
  obtain ⟨b, e, b1, _, b2, b3⟩ := oneL_some hM hM2 h (f := 1) (by decide) (Int.one_dvd _)
  have hbM := le_M hM hM2 b2
  have e2 := scaled_some hM hM2 b1 b2 h b3
  have hsm : ∀ q ∈ S.map (sc b), Sm q := fun q hq => by
    obtain ⟨p, hp, rfl⟩ := List.mem_map.mp hq
    exact (sc_small hM hM2 b1 b2 (h p hp) (b3 p hp).1 (b3 p hp).2).1
  have e3 := pairsHull_some hsm
  have hlen := (hull_sub (l := S.map (sc b))).2
  rw [List.length_map] at hlen
  refine ⟨b, b1, b2, b3, ?_⟩
  unfold Mr.hullO
  rw [Nat.ble_eq.mpr hl]
  show (Mr.oneBottomO S).bind _ = _
  have e' : Mr.oneBottomO S = some b := e
  rw [e', Option.bind_some, e2, Option.bind_some, e3, Option.bind_some, Nat.ble_eq.mpr (by omega)]
  exact unscaled_some b1 (by omega)
theorem hull_due {S : List Mr.Pt} (h : ∀ p ∈ S, Bd M p) (hl : S.length ≤ 1000) : Mr.hullO S = dueP S := by
  obtain ⟨b, b1, b2, b3, e⟩ := hullO_some hM hM2 h hl
  rw [e, due_of hM hM2 b1 h b3]
theorem due_ext {S T : List Mr.Pt} (h : ∀ p ∈ S, Bd M p) (hl : S.length ≤ 1000) (e : ∀ p, p ∈ T ↔ p ∈ S) : dueP T = dueP S := by
  obtain ⟨b, b1, b2, b3, _⟩ := hullO_some hM hM2 h hl
  rw [due_of hM hM2 b1 h b3, due_of hM hM2 b1 (fun p hp => h p ((e p).mp hp)) (fun p hp => b3 p ((e p).mp hp))]
  rw [srt_ext (l := T.map (sc b)) (m := S.map (sc b)) fun x => by simp only [List.mem_map, e]]
/-- the hull's corners are points given, and their own hull -/
theorem due_again {S : List Mr.Pt} (h : ∀ p ∈ S, Bd M p) (hl : S.length ≤ 1000) : ∃ D, dueP S = some D ∧ (∀ p ∈ D, p ∈ S) ∧ D.length ≤ S.length ∧ dueP D = some D := by
  obtain ⟨b, b1, b2, b3, _⟩ := hullO_some hM hM2 h hl
  have sub := hull_sub (l := S.map (sc b))
  have back : ∀ q ∈ hullF (srt (S.map (sc b))), un b q ∈ S ∧ sc b (un b q) = q := fun q hq => by
    obtain ⟨p, hp, rfl⟩ := List.mem_map.mp (sub.1 q hq)
    rw [un_sc b1 (h p hp) (b3 p hp).1 (b3 p hp).2]
    exact ⟨hp, rfl⟩
  have hm : ∀ p ∈ (hullF (srt (S.map (sc b)))).map (un b), p ∈ S := fun p hp => by
    obtain ⟨q, hq, rfl⟩ := List.mem_map.mp hp
    exact (back q hq).1
  refine ⟨_, due_of hM hM2 b1 h b3, hm, ?_, ?_⟩
  · have := sub.2
    rw [List.length_map] at this ⊢
    exact this
  · rw [due_of hM hM2 b1 (fun p hp => h p (hm p hp)) (fun p hp => b3 p (hm p hp))]
    have e : ((hullF (srt (S.map (sc b)))).map (un b)).map (sc b) = hullF (srt (S.map (sc b))) := by
      rw [List.map_map]
      conv => rhs; rw [← List.map_id (hullF (srt (S.map (sc b))))]
      exact List.map_congr_left fun q hq => (back q hq).2
    rw [e, hull_again]
end
end Hp
set_option maxHeartbeats 200000
/-! the program's fractions as rationals -/
namespace Ra
open Hs Hp Vy
def val (x : Mr.Fr) : Rat := (x.1 : Rat) / (x.2 : Rat)
structure Sz (k : Nat) (x : Mr.Fr) : Prop where
  z : 0 < x.2
  a : x.1.natAbs ≤ 2 ^ k
  b : x.2.natAbs ≤ 2 ^ k
theorem Sz.up {k m : Nat} {x : Mr.Fr} (h : Sz k x) (l : k ≤ m) : Sz m x :=
  ⟨h.z, Nat.le_trans h.a (Nat.pow_le_pow_right (by decide) l), Nat.le_trans h.b (Nat.pow_le_pow_right (by decide) l)⟩
theorem pos_ne {b : Int} (h : 0 < b) : (b : Rat) ≠ 0 := by
  intro e
  have : b = 0 := Rat.intCast_inj.mp (by simpa using e)
  omega
theorem pos_q {b : Int} (h : 0 < b) : (0 : Rat) < (b : Rat) := by
  have := Rat.intCast_lt_intCast.mpr h
  simpa using this
theorem lt1100 {n k : Nat} (h : n ≤ 2 ^ k) (hk : k ≤ 1099) : n < 2 ^ 1100 := Nat.lt_of_le_of_lt h (Nat.pow_lt_pow_right (by decide) (by omega))
theorem log_pow {n k : Nat} (h : n ≤ 2 ^ k) : Nat.log2 n ≤ k := by
  by_cases h0 : n = 0
  · rw [h0]; exact Nat.zero_le _
  · have := (Nat.log2_lt (k := k + 1) h0).mpr (Nat.lt_of_le_of_lt h (Nat.pow_lt_pow_right (by decide) (Nat.lt_succ_self k)))
    omega
theorem smB {i j : Int} {k m : Nat} (h1 : i.natAbs ≤ 2 ^ k) (h2 : j.natAbs ≤ 2 ^ m) (h : k + m ≤ 100000000) : Mr.smN i j = true := by
  have a := log_pow h1
  have b := log_pow h2
  unfold Mr.smN
  rw [Nat.blt_eq]
  show Nat.log2 _ + Nat.log2 _ < _
  omega
theorem dvB {j : Int} {k : Nat} (h0 : j ≠ 0) (h1 : j.natAbs ≤ 2 ^ k) (hk : k ≤ 8800) : Mr.dvN j = true := by
  have a := log_pow h1
  unfold Mr.dvN
  split
  · omega
  · rename_i n hn
    rw [hn] at a
    rw [Nat.blt_eq]
    show Nat.log2 n.succ < 8900
    omega
theorem frO_big {t b : Int} {k : Nat} (h0 : 0 < b) (h1 : b.natAbs ≤ 2 ^ k) (hk : k ≤ 8800) : Mr.frO t b = some (nrm t b) := by
  unfold Mr.frO
  rw [dvB (by omega) h1 hk]
  simp only [fN_eq, fI_eq, posI_eq, h0, decide_true]
  have e : ∀ x : Int, x.fdiv (Int.ofNat (Nat.gcd t.natAbs b.natAbs)) = x / (Nat.gcd t.natAbs b.natAbs : Nat) := fun x => Int.fdiv_eq_ediv_of_nonneg _ (by simp)
  rw [e, e]
  rfl
theorem val_nrm {t b : Int} (hb : 0 < b) : val (nrm t b) = (t : Rat) / (b : Rat) := by
  obtain ⟨g, g0, e1, e2, z, co⟩ := nrm_spec (t := t) hb
  unfold val
  have h1 : (g : Rat) * ((nrm t b).1 : Rat) = (t : Rat) := by rw [← Rat.intCast_mul, ← e1]
  have h2 : (g : Rat) * ((nrm t b).2 : Rat) = (b : Rat) := by rw [← Rat.intCast_mul, ← e2]
  have n1 := pos_ne z
  have n2 := pos_ne g0
  have n3 := pos_ne hb
  grind
theorem sz_nrm {t b : Int} {k : Nat} (hb : 0 < b) (ht : t.natAbs ≤ 2 ^ k) (h1 : b.natAbs ≤ 2 ^ k) : Sz k (nrm t b) := by
  obtain ⟨g, g0, e1, e2, z, co⟩ := nrm_spec (t := t) hb
  have l : ∀ {x y : Int}, g * x = y → x.natAbs ≤ y.natAbs := fun {x y} e => by
    rw [← e, Int.natAbs_mul]
    exact Nat.le_mul_of_pos_left _ (by omega)
  exact ⟨z, Nat.le_trans (l e1.symm) ht, Nat.le_trans (l e2.symm) h1⟩
theorem nrm_val {t b u c : Int} (hb : 0 < b) (hc : 0 < c) (h : (t : Rat) / (b : Rat) = (u : Rat) / (c : Rat)) : nrm t b = nrm u c := by
  refine nrm_eq hb hc ?_
  have n1 := pos_ne hb
  have n2 := pos_ne hc
  apply Rat.intCast_inj.mp
  rw [Rat.intCast_mul, Rat.intCast_mul]
  grind
theorem mul_pow {x y : Int} {k m : Nat} (h1 : x.natAbs ≤ 2 ^ k) (h2 : y.natAbs ≤ 2 ^ m) : (x * y).natAbs ≤ 2 ^ (k + m) := by
  rw [Int.natAbs_mul, Nat.pow_add]
  exact Nat.mul_le_mul h1 h2
theorem add_pow {x y : Int} {k m : Nat} (h1 : x.natAbs ≤ 2 ^ k) (h2 : y.natAbs ≤ 2 ^ k) (l : k < m) : (x + y).natAbs ≤ 2 ^ m := by
  have := Nat.pow_le_pow_right (n := 2) (by decide) (show k + 1 ≤ m by omega)
  rw [Nat.pow_succ] at this
  omega
theorem sub_pow {x y : Int} {k m : Nat} (h1 : x.natAbs ≤ 2 ^ k) (h2 : y.natAbs ≤ 2 ^ k) (l : k < m) : (x - y).natAbs ≤ 2 ^ m := by
  have := Nat.pow_le_pow_right (n := 2) (by decide) (show k + 1 ≤ m by omega)
  rw [Nat.pow_succ] at this
  omega
theorem sm_pow {x y : Int} {k m : Nat} (h1 : x.natAbs ≤ 2 ^ k) (h2 : y.natAbs ≤ 2 ^ m) (hk : k ≤ 40000) (hm : m ≤ 40000) : Mr.smN x y = true := smB h1 h2 (by omega)
theorem up_pow {n k m : Nat} (h : n ≤ 2 ^ k) (l : k ≤ m) : n ≤ 2 ^ m := Nat.le_trans h (Nat.pow_le_pow_right (by decide) l)
theorem plusO_some {x y : Mr.Fr} {k m : Nat} (hx : Sz k x) (hy : Sz m y) (h : k + m ≤ 8000) : ∃ z, Mr.plusO x y = some z ∧ Sz (k + m + 1) z ∧ val z = val x + val y := by
  unfold Mr.plusO
  rw [sm_pow hx.a hy.b (by omega) (by omega), sm_pow hy.a hx.b (by omega) (by omega), sm_pow hx.b hy.b (by omega) (by omega)]
  simp only [fI_eq, Bool.and_self]
  have zz := Int.mul_pos hx.z hy.z
  have b1 := mul_pow hx.b hy.b
  have t1 : (x.1 * y.2 + y.1 * x.2).natAbs ≤ 2 ^ (k + m + 1) := add_pow (mul_pow hx.a hy.b) (by rw [Nat.add_comm]; exact mul_pow hy.a hx.b) (by omega)
  refine ⟨_, frO_big zz b1 (by omega), sz_nrm zz t1 (up_pow b1 (by omega)), ?_⟩
  show val (nrm (x.1 * y.2 + y.1 * x.2) (x.2 * y.2)) = _
  rw [val_nrm zz, Rat.intCast_add, Rat.intCast_mul, Rat.intCast_mul, Rat.intCast_mul]
  have n1 := pos_ne hx.z
  have n2 := pos_ne hy.z
  unfold val
  grind
theorem lessO_some {x y : Mr.Fr} {k m : Nat} (hx : Sz k x) (hy : Sz m y) (h : k + m ≤ 8000) : ∃ z, Mr.lessO x y = some z ∧ Sz (k + m + 1) z ∧ val z = val x - val y := by
  unfold Mr.lessO
  rw [sm_pow hx.a hy.b (by omega) (by omega), sm_pow hy.a hx.b (by omega) (by omega), sm_pow hx.b hy.b (by omega) (by omega)]
  simp only [fI_eq, Bool.and_self]
  have zz := Int.mul_pos hx.z hy.z
  have b1 := mul_pow hx.b hy.b
  have t1 : (x.1 * y.2 - y.1 * x.2).natAbs ≤ 2 ^ (k + m + 1) := sub_pow (mul_pow hx.a hy.b) (by rw [Nat.add_comm]; exact mul_pow hy.a hx.b) (by omega)
  refine ⟨_, frO_big zz b1 (by omega), sz_nrm zz t1 (up_pow b1 (by omega)), ?_⟩
  show val (nrm (x.1 * y.2 - y.1 * x.2) (x.2 * y.2)) = _
  rw [val_nrm zz, Rat.intCast_sub, Rat.intCast_mul, Rat.intCast_mul, Rat.intCast_mul]
  have n1 := pos_ne hx.z
  have n2 := pos_ne hy.z
  unfold val
  grind
theorem timesO_some {x y : Mr.Fr} {k m : Nat} (hx : Sz k x) (hy : Sz m y) (h : k + m ≤ 8000) : ∃ z, Mr.timesO x y = some z ∧ Sz (k + m) z ∧ val z = val x * val y := by
  unfold Mr.timesO
  rw [sm_pow hx.a hy.a (by omega) (by omega), sm_pow hx.b hy.b (by omega) (by omega)]
  simp only [fI_eq, Bool.and_self]
  have zz := Int.mul_pos hx.z hy.z
  have b1 := mul_pow hx.b hy.b
  have t1 := mul_pow hx.a hy.a
  refine ⟨_, frO_big zz b1 (by omega), sz_nrm zz t1 b1, ?_⟩
  show val (nrm (x.1 * y.1) (x.2 * y.2)) = _
  rw [val_nrm zz, Rat.intCast_mul, Rat.intCast_mul]
  have n1 := pos_ne hx.z
  have n2 := pos_ne hy.z
  unfold val
  grind
theorem lt_val {x y : Mr.Fr} (hx : 0 < x.2) (hy : 0 < y.2) : (x.1 * y.2 < y.1 * x.2) ↔ val x < val y := by
  have n1 := pos_q hx
  have n2 := pos_q hy
  unfold val
  rw [Rat.div_lt_iff n1, ← Rat.intCast_lt_intCast, Rat.intCast_mul, Rat.intCast_mul]
  have e : (y.1 : Rat) * x.2 = (y.1 / y.2 * x.2) * y.2 := by
    have := pos_ne hy
    grind
  rw [e, Rat.mul_comm _ (y.2 : Rat), Rat.mul_comm _ (y.2 : Rat)]
  exact Rat.mul_lt_mul_left n2
theorem comparedO_some {x y : Mr.Fr} {k m : Nat} (hx : Sz k x) (hy : Sz m y) (h : k + m ≤ 8000) : ∃ c, Mr.comparedO x y = some c ∧ (c < 0 ↔ val x < val y) ∧ (0 < c ↔ val y < val x) := by
  unfold Mr.comparedO
  rw [sm_pow hx.a hy.b (by omega) (by omega), sm_pow hy.a hx.b (by omega) (by omega)]
  simp only [Bool.and_self]
  have l1 := lt_val hx.z hy.z
  have l2 := lt_val hy.z hx.z
  have e : Int.sub (Int.mul x.1 y.2) (Int.mul y.1 x.2) = x.1 * y.2 - y.1 * x.2 := rfl
  rw [← l1, ← l2, e]
  split
  · rename_i he
    have : x.1 * y.2 - y.1 * x.2 = 0 := he
    exact ⟨0, rfl, by omega, by omega⟩
  · rename_i n he
    have : x.1 * y.2 - y.1 * x.2 = ((n + 1 : Nat) : Int) := he
    exact ⟨1, rfl, by omega, by omega⟩
  · rename_i n he
    exact ⟨-1, rfl, by omega, by omega⟩
theorem belowO_some {x y : Mr.Fr} {k m : Nat} (hx : Sz k x) (hy : Sz m y) (h : k + m ≤ 8000) : Mr.belowO x y = some (decide (x.1 * y.2 < y.1 * x.2)) := by
  unfold Mr.belowO
  rw [sm_pow hx.a hy.b (by omega) (by omega), sm_pow hy.a hx.b (by omega) (by omega)]
  simp only [Bool.and_self]
  rw [ltI_eq]
  show (match decide (x.1 * y.2 < y.1 * x.2) with
    | true => some true
    | false => some false) = _
  cases decide (x.1 * y.2 < y.1 * x.2) <;> rfl
/-- a point's numbers -/
def vx (p : Mr.Pt) : Rat := val p.1
def vy (p : Mr.Pt) : Rat := val p.2
structure SzP (k : Nat) (p : Mr.Pt) : Prop where
  a : Sz k p.1
  b : Sz k p.2
theorem worthO_some {p : Mr.Pt} {a b : Mr.Fr} {k m : Nat} (hp : SzP k p) (ha : Sz m a) (hb : Sz m b) (h : k + m ≤ 3900) : ∃ z, Mr.worthO p a b = some z ∧ Sz (2 * (k + m) + 1) z ∧ val z = val a * vx p + val b * vy p := by
  obtain ⟨x, e1, s1, v1⟩ := timesO_some ha hp.a (by omega)
  obtain ⟨y, e2, s2, v2⟩ := timesO_some hb hp.b (by omega)
  obtain ⟨z, e3, s3, v3⟩ := plusO_some s1 s2 (by omega)
  refine ⟨z, ?_, s3.up (by omega), ?_⟩
  · unfold Mr.worthO
    rw [e1, Option.bind_some, e2, Option.bind_some, e3]
  · rw [v3, v1, v2]
    rfl
structure HpV (k : Nat) (x : Mr.Hp) (a b c : Rat) : Prop where
  za : Sz k x.a
  zb : Sz k x.b
  zc : Sz (4 * k) x.high
  a : val x.a = a
  b : val x.b = b
  c : val x.high = c
theorem rightO_some {p q : Mr.Pt} {k : Nat} (hp : SzP k p) (hq : SzP k q) (h : k ≤ 60) : ∃ r, Mr.rightOfO p q = some r ∧ HpV (2 * k + 1) r (vy q - vy p) (vx p - vx q) ((vy q - vy p) * vx p + (vx p - vx q) * vy p) := by
  obtain ⟨x, e1, s1, v1⟩ := lessO_some hq.b hp.b (by omega)
  obtain ⟨y, e2, s2, v2⟩ := lessO_some hp.a hq.a (by omega)
  obtain ⟨z, e3, s3, v3⟩ := worthO_some hp (s1.up (show _ ≤ 2 * k + 1 by omega)) (s2.up (show _ ≤ 2 * k + 1 by omega)) (by omega)
  refine ⟨⟨x, y, z⟩, ?_, s1.up (by omega), s2.up (by omega), s3.up (by omega), v1, v2, ?_⟩
  · unfold Mr.rightOfO
    rw [e1, Option.bind_some, e2, Option.bind_some, e3, Option.bind_some]
  · rw [v3, v1, v2]
    rfl
theorem alongO_some {p q : Mr.Pt} {k : Nat} (hp : SzP k p) (hq : SzP k q) (h : k ≤ 60) : ∃ r, Mr.alongO p q = some r ∧ HpV (2 * k + 1) r (vx q - vx p) (vy q - vy p) ((vx q - vx p) * vx q + (vy q - vy p) * vy q) := by
  obtain ⟨x, e1, s1, v1⟩ := lessO_some hq.a hp.a (by omega)
  obtain ⟨y, e2, s2, v2⟩ := lessO_some hq.b hp.b (by omega)
  obtain ⟨z, e3, s3, v3⟩ := worthO_some hq (s1.up (show _ ≤ 2 * k + 1 by omega)) (s2.up (show _ ≤ 2 * k + 1 by omega)) (by omega)
  refine ⟨⟨x, y, z⟩, ?_, s1.up (by omega), s2.up (by omega), s3.up (by omega), v1, v2, ?_⟩
  · unfold Mr.alongO
    rw [e1, Option.bind_some, e2, Option.bind_some, e3, Option.bind_some]
  · rw [v3, v1, v2]
    rfl
end Ra
set_option maxHeartbeats 200000
/-! area, ends, where of a shape by forms of its spots -/
namespace Ra
open Hs Hp Vy
def qx (s : Spot) : Rat := (s.1 : Rat) / (s.2.2 : Rat)
def qy (s : Spot) : Rat := (s.2.1 : Rat) / (s.2.2 : Rat)
structure SzS (k : Nat) (s : Spot) : Prop where
  z : 0 < s.2.2
  a : s.1.natAbs ≤ 2 ^ k
  b : s.2.1.natAbs ≤ 2 ^ k
  c : s.2.2.natAbs ≤ 2 ^ k
theorem vx_ptS {s : Spot} (h : 0 < s.2.2) : vx (ptS s) = qx s := val_nrm h
theorem vy_ptS {s : Spot} (h : 0 < s.2.2) : vy (ptS s) = qy s := val_nrm h
theorem szP {s : Spot} {k : Nat} (h : SzS k s) : SzP k (ptS s) := ⟨sz_nrm h.z h.a h.c, sz_nrm h.z h.b h.c⟩
/-! neighbours -/
def prs {α : Type} : α → List α → List (α × α)
  | _, [] => []
  | a, b :: l => (a, b) :: prs b l
theorem zip_prs {α : Type} : ∀ (l : List α) (a b : α), (a :: l).zip (l ++ [b]) = prs a (l ++ [b])
  | [], a, b => rfl
  | c :: l, a, b => by
    show (a, c) :: (c :: l).zip (l ++ [b]) = (a, c) :: prs c (l ++ [b])
    rw [zip_prs l c b]
theorem prs_snoc {α : Type} : ∀ (l : List α) (a b : α), prs a (l ++ [b]) = prs a l ++ [((a :: l).getLastD a, b)]
  | [], a, b => rfl
  | c :: l, a, b => by
    show (a, c) :: prs c (l ++ [b]) = (a, c) :: (prs c l ++ [((a :: c :: l).getLastD a, b)])
    rw [prs_snoc l c b]
    congr 3
/-- each with the next one, the last with the first -/
def rnd {α : Type} (l : List α) : List (α × α) := l.zip (l.drop 1 ++ l.take 1)
theorem rnd_cons {α : Type} (a : α) (l : List α) : rnd (a :: l) = prs a l ++ [((a :: l).getLastD a, a)] := by
  show (a :: l).zip (l ++ [a]) = _
  rw [zip_prs, prs_snoc]
def sumZ {α : Type} (f : α × α → Rat) : List (α × α) → Rat
  | [] => 0
  | p :: l => f p + sumZ f l
theorem sumZ_app {α : Type} (f : α × α → Rat) : ∀ a b : List (α × α), sumZ f (a ++ b) = sumZ f a + sumZ f b
  | [], b => by show _ = 0 + _; rw [Rat.zero_add]; rfl
  | p :: a, b => by
    show f p + sumZ f (a ++ b) = f p + sumZ f a + sumZ f b
    rw [sumZ_app f a b, Rat.add_assoc]
theorem sum_rnd {α : Type} (f : α × α → Rat) (a : α) (l : List α) : sumZ f (rnd (a :: l)) = sumZ f (prs ((a :: l).getLastD a) (a :: l)) := by
  rw [rnd_cons, sumZ_app]
  show sumZ f (prs a l) + (f _ + 0) = f _ + sumZ f (prs a l)
  grind
/-! area -/
def crs (p : Mr.Pt × Mr.Pt) : Rat := vx p.1 * vy p.2 - vx p.2 * vy p.1
def crsS (p : Spot × Spot) : Rat := qx p.1 * qy p.2 - qx p.2 * qy p.1
def areaF : List (Spot × Spot) → Int → Int → Int × Int
  | [], t, b => (t, b)
  | (o, e) :: l, t, b => areaF l (t * (o.2.2 * e.2.2) + (o.1 * e.2.1 - e.1 * o.2.1) * b) (b * (o.2.2 * e.2.2))
theorem areaF_val : ∀ (l : List (Spot × Spot)) (t b : Int), 0 < b → (∀ p ∈ l, 0 < p.1.2.2 ∧ 0 < p.2.2.2) → 0 < (areaF l t b).2 ∧ ((areaF l t b).1 : Rat) / ((areaF l t b).2 : Rat) = (t : Rat) / (b : Rat) + sumZ crsS l
  | [], t, b, hb, _ => ⟨hb, by show (t : Rat) / b = _ + 0; rw [Rat.add_zero]⟩
  | (o, e) :: l, t, b, hb, h => by
    obtain ⟨z1, z2⟩ := h _ List.mem_cons_self
    have z1 : 0 < o.2.2 := z1
    have z2 : 0 < e.2.2 := z2
    obtain ⟨i1, i2⟩ := areaF_val l (t * (o.2.2 * e.2.2) + (o.1 * e.2.1 - e.1 * o.2.1) * b) (b * (o.2.2 * e.2.2)) (Int.mul_pos hb (Int.mul_pos z1 z2)) (fun p hp => h p (List.mem_cons_of_mem _ hp))
    refine ⟨i1, ?_⟩
    show ((areaF l _ _).1 : Rat) / ((areaF l _ _).2 : Rat) = (t : Rat) / (b : Rat) + (crsS (o, e) + sumZ crsS l)
    rw [i2]
    unfold crsS qx qy
    simp only [Rat.intCast_add, Rat.intCast_mul, Rat.intCast_sub]
    have n1 := pos_ne z1
    have n2 := pos_ne z2
    have n3 := pos_ne hb
    generalize sumZ crsS l = S
    grind
theorem prs_map {α β : Type} (f : α → β) : ∀ (l : List α) (a : α), prs (f a) (l.map f) = (prs a l).map (fun p => (f p.1, f p.2))
  | [], a => rfl
  | b :: l, a => by
    show (f a, f b) :: prs (f b) (l.map f) = (f a, f b) :: (prs b l).map _
    rw [prs_map f l b]
theorem prs_mem {α : Type} : ∀ {l : List α} {a : α} {p : α × α}, p ∈ prs a l → (p.1 = a ∨ p.1 ∈ l) ∧ p.2 ∈ l
  | [], _, _, h => nomatch h
  | b :: l, a, p, h => by
    rcases List.mem_cons.mp h with rfl | h
    · exact ⟨.inl rfl, List.mem_cons_self⟩
    · obtain ⟨h1, h2⟩ := prs_mem h
      refine ⟨.inr ?_, List.mem_cons_of_mem _ h2⟩
      rcases h1 with h1 | h1
      · rw [h1]; exact List.mem_cons_self
      · exact List.mem_cons_of_mem _ h1
theorem last_mem {α : Type} : ∀ (l : List α) (a : α), (a :: l).getLastD a ∈ a :: l
  | [], a => List.mem_cons_self
  | b :: l, a => by
    have := last_mem l b
    have e : (a :: b :: l).getLastD a = (b :: l).getLastD b := by cases l <;> rfl
    rw [e]
    exact List.mem_cons_of_mem _ this
theorem rnd_mem {α : Type} {l : List α} {p : α × α} (h : p ∈ rnd l) : p.1 ∈ l ∧ p.2 ∈ l := by
  have := List.of_mem_zip (a := p.1) (b := p.2) h
  refine ⟨this.1, ?_⟩
  rcases List.mem_append.mp this.2 with h | h
  · exact List.mem_of_mem_drop h
  · exact List.mem_of_mem_take h
theorem sumZ_map {α β : Type} (g : α × α → β × β) (f : β × β → Rat) : ∀ l : List (α × α), sumZ f (l.map g) = sumZ (fun p => f (g p)) l
  | [] => rfl
  | p :: l => by
    show f (g p) + _ = f (g p) + _
    rw [sumZ_map g f l]
theorem sumZ_congr {α : Type} {f g : α × α → Rat} : ∀ {l : List (α × α)}, (∀ p ∈ l, f p = g p) → sumZ f l = sumZ g l
  | [], _ => rfl
  | p :: l, h => by
    show f p + _ = g p + _
    rw [h p List.mem_cons_self, sumZ_congr fun q hq => h q (List.mem_cons_of_mem _ hq)]
theorem areaL_some {B : Int} (hB : 0 < B) : ∀ (l : List Mr.Pt) (a : Mr.Pt), (∀ p ∈ a :: l, Sm (sc B p) ∧ ((sc B p).1 : Rat) = B * vx p ∧ ((sc B p).2 : Rat) = B * vy p) → ∃ r, Mr.areaL (sc B a) (l.map (sc B)) = some r ∧ (Mr.sumI r : Rat) = B * B * sumZ crs (prs a l)
  | [], a, _ => ⟨[], rfl, by show ((0 : Int) : Rat) = B * B * 0; simp⟩
  | b :: l, a, h => by
    obtain ⟨r, e, hr⟩ := areaL_some hB l b (fun p hp => h p (List.mem_cons_of_mem _ hp))
    obtain ⟨s1, x1, y1⟩ := h a List.mem_cons_self
    obtain ⟨s2, x2, y2⟩ := h b (by simp)
    refine ⟨((sc B a).1 * (sc B b).2 - (sc B b).1 * (sc B a).2) :: r, ?_, ?_⟩
    · show Mr.areaL (sc B a) (sc B b :: l.map (sc B)) = _
      unfold Mr.areaL
      rw [mulO_some s1.1 s2.2, Option.bind_some, mulO_some s2.1 s1.2, Option.bind_some, e, Option.bind_some, fI1]
      rfl
    · show (((sc B a).1 * (sc B b).2 - (sc B b).1 * (sc B a).2 + Mr.sumI r : Int) : Rat) = B * B * (crs (a, b) + sumZ crs (prs b l))
      rw [Rat.intCast_add, hr, Rat.intCast_sub, Rat.intCast_mul, Rat.intCast_mul, x1, x2, y1, y2]
      unfold crs
      generalize sumZ crs (prs b l) = S
      grind
theorem sc_val {B : Int} {p : Mr.Pt} (h : 0 < p.1.2 ∧ 0 < p.2.2) (d1 : p.1.2 ∣ B) (d2 : p.2.2 ∣ B) : ((sc B p).1 : Rat) = B * vx p ∧ ((sc B p).2 : Rat) = B * vy p := by
  have k : ∀ {t z : Int}, 0 < z → z ∣ B → ((t * (B / z) : Int) : Rat) = B * ((t : Rat) / z) := fun {t z} hz hd => by
    have e := Int.mul_ediv_cancel' hd
    have e2 : (z : Rat) * ((B / z : Int) : Rat) = (B : Rat) := by rw [← Rat.intCast_mul, e]
    rw [Rat.intCast_mul]
    have := pos_ne hz
    generalize ((B / z : Int) : Rat) = q at e2
    grind
  exact ⟨k h.1 d1, k h.2 d2⟩
theorem area_some {D : List Mr.Pt} (hD : ∀ p ∈ D, Bd 6 p) (d : Mr.Pt) : ∃ t c, 0 < c ∧ Mr.areaO D = some (nrm t c) ∧ (t : Rat) / (c : Rat) = sumZ crs (prs (D.getLastD d) D) / 2 := by
  obtain ⟨B, e, b1, _, b2, b3⟩ := oneL_some (M := 6) (by decide) (by decide) hD (f := 1) (by decide) (Int.one_dvd _)
  have hb6 := Int.le_of_dvd (by decide) b2
  have e2 := scaled_some (M := 6) (by decide) (by decide) b1 b2 hD b3
  have key : ∀ p ∈ D, Sm (sc B p) ∧ ((sc B p).1 : Rat) = B * vx p ∧ ((sc B p).2 : Rat) = B * vy p := fun p hp =>
    ⟨(sc_small (M := 6) (by decide) (by decide) b1 b2 (hD p hp) (b3 p hp).1 (b3 p hp).2).1, sc_val ⟨(hD p hp).z1, (hD p hp).z2⟩ (b3 p hp).1 (b3 p hp).2⟩
  obtain ⟨r, e3, hr⟩ : ∃ r, Mr.areaL ((D.map (sc B)).getLastD (0, 0)) (D.map (sc B)) = some r ∧ (Mr.sumI r : Rat) = B * B * sumZ crs (prs (D.getLastD d) D) := by
    cases D with
    | nil => exact ⟨[], rfl, by show ((0 : Int) : Rat) = B * B * 0; simp⟩
    | cons a l =>
      have e4 : ((a :: l).map (sc B)).getLastD (0, 0) = sc B ((a :: l).getLastD d) := by
        rw [List.getLastD_eq_getLast?, List.getLastD_eq_getLast?, List.getLast?_map]
        rw [List.getLast?_cons]
        rfl
      rw [e4]
      refine areaL_some b1 _ _ fun p hp => ?_
      rcases List.mem_cons.mp hp with rfl | hp
      · refine key _ ?_
        have : (a :: l).getLastD d = (a :: l).getLastD a := by
          rw [List.getLastD_eq_getLast?, List.getLastD_eq_getLast?, List.getLast?_cons]
          rfl
        rw [this]
        exact last_mem l a
      · exact key p hp
  have bb : (0 : Int) < 2 * B * B := Int.mul_pos (by omega) b1
  have c1 : Mr.mulO 2 B = some (2 * B) := mulO_some (by decide) (by omega)
  have c2 : Mr.mulO (2 * B) B = some (2 * B * B) := mulO_some (by omega) (by omega)
  have c3 : 2 * B * B ≤ 2 ^ 62 := by
    have := Int.mul_le_mul (show 2 * B ≤ 12 by omega) hb6 (by omega) (by omega)
    omega
  refine ⟨Mr.sumI r, 2 * B * B, bb, ?_, ?_⟩
  · unfold Mr.areaO
    rw [show Mr.oneBottomO D = some B from e, Option.bind_some, e2, Option.bind_some, e3, Option.bind_some, c1, Option.bind_some, c2, Option.bind_some, fI1, frO_some bb c3]
  · rw [hr, Rat.intCast_mul, Rat.intCast_mul]
    have := pos_ne b1
    generalize sumZ crs (prs (D.getLastD d) D) = S
    have h2 : ((2 : Int) : Rat) = 2 := rfl
    rw [h2]
    grind
/-- the law's own area -/
def ownArea (L : List Spot) : Mr.Fr := nrm (areaF (rnd L) 0 1).1 (2 * (areaF (rnd L) 0 1).2)
theorem area_own {L : List Spot} (hL : ∀ s ∈ L, 0 < s.2.2) (hD : ∀ p ∈ L.map ptS, Bd 6 p) : Mr.areaO (L.map ptS) = some (ownArea L) := by
  cases L with
  | nil => rfl
  | cons a l =>
    obtain ⟨t, c, hc, e, v⟩ := area_some hD (ptS a)
    rw [e]
    obtain ⟨f1, f2⟩ := areaF_val (rnd (a :: l)) 0 1 (by decide) (fun p hp => ⟨hL _ (rnd_mem hp).1, hL _ (rnd_mem hp).2⟩)
    congr 1
    refine nrm_val hc (by omega) ?_
    rw [v, Rat.intCast_mul]
    have e1 : ((a :: l).map ptS).getLastD (ptS a) = ptS ((a :: l).getLastD a) := by
      rw [List.getLastD_eq_getLast?, List.getLastD_eq_getLast?, List.getLast?_map, List.getLast?_cons]
      rfl
    have e2 : sumZ crs (prs (((a :: l).map ptS).getLastD (ptS a)) ((a :: l).map ptS)) = sumZ crsS (rnd (a :: l)) := by
      rw [e1, prs_map, sumZ_map, sum_rnd]
      refine sumZ_congr fun p hp => ?_
      obtain ⟨h1, h2⟩ := prs_mem hp
      have z1 : 0 < p.1.2.2 := hL _ (by
        rcases h1 with h1 | h1
        · rw [h1]; exact last_mem l a
        · exact h1)
      have z2 : 0 < p.2.2.2 := hL _ h2
      show vx (ptS p.1) * vy (ptS p.2) - vx (ptS p.2) * vy (ptS p.1) = _
      rw [vx_ptS z1, vx_ptS z2, vy_ptS z1, vy_ptS z2]
      rfl
    rw [e2]
    have n := pos_ne f1
    have h0 : ((0 : Int) : Rat) / ((1 : Int) : Rat) = 0 := by
      show (0 : Rat) / _ = 0
      grind
    have h2 : ((2 : Int) : Rat) = 2 := rfl
    rw [h0, Rat.zero_add] at f2
    rw [← f2, h2]
    generalize ((areaF (rnd (a :: l)) 0 1).1 : Rat) = x
    generalize ((areaF (rnd (a :: l)) 0 1).2 : Rat) = y at n
    grind
/-! ends -/
def worthS (p q : Int) (s : Spot) : Mr.Fr := nrm (p * s.1 + q * s.2.1) s.2.2
def ltFr (x y : Mr.Fr) : Bool := decide (x.1 * y.2 < y.1 * x.2)
def endF (least : Bool) (p q : Int) : List Spot → Option (Mr.Fr × Mr.Pt) → Option (Mr.Fr × Mr.Pt)
  | [], f => f
  | s :: l, none => endF least p q l (some (worthS p q s, ptS s))
  | s :: l, some f => endF least p q l (if (if least then ltFr (worthS p q s) f.1 else ltFr f.1 (worthS p q s)) = true then some (worthS p q s, ptS s) else some f)
theorem mulO_pow {i j : Int} {k m : Nat} (h1 : i.natAbs ≤ 2 ^ k) (h2 : j.natAbs ≤ 2 ^ m) (hk : k ≤ 40000) (hm : m ≤ 40000) : Mr.mulO i j = some (i * j) := by
  unfold Mr.mulO
  rw [sm_pow h1 h2 hk hm]
  exact fI1 _ _
theorem formO_some {s : Spot} {k : Nat} (h : SzS k s) (hk : k ≤ 60) {p q : Int} (hp : p.natAbs ≤ 2 ^ 200) (hq : q.natAbs ≤ 2 ^ 200) : Mr.formO (ptS s) p q = some (worthS p q s) := by
  have hs := szP h
  have z1 := hs.a.z
  have z2 := hs.b.z
  have v1 := vx_ptS h.z
  have v2 := vy_ptS h.z
  have e1 := mulO_pow hp hs.a.a (by omega) (by omega)
  have e2 := mulO_pow (mul_pow hp hs.a.a) hs.b.b (by omega) (by omega)
  have e3 := mulO_pow hq hs.b.a (by omega) (by omega)
  have e4 := mulO_pow (mul_pow hq hs.b.a) hs.a.b (by omega) (by omega)
  have e5 := mulO_pow hs.a.b hs.b.b (by omega) (by omega)
  have zz := Int.mul_pos z1 z2
  unfold Mr.formO
  rw [e1, Option.bind_some, e2, Option.bind_some, e3, Option.bind_some, e4, Option.bind_some, e5, Option.bind_some, fI1, frO_big zz (mul_pow hs.a.b hs.b.b) (by omega)]
  congr 1
  refine nrm_val zz h.z ?_
  show ((p * (ptS s).1.1 * (ptS s).2.2 + q * (ptS s).2.1 * (ptS s).1.2 : Int) : Rat) / _ = _
  simp only [Rat.intCast_add, Rat.intCast_mul]
  have n1 := pos_ne z1
  have n2 := pos_ne z2
  have n3 := pos_ne h.z
  have w1 : ((ptS s).1.1 : Rat) = (s.1 : Rat) / s.2.2 * (ptS s).1.2 := by
    unfold vx val qx at v1
    rw [← v1]
    grind
  have w2 : ((ptS s).2.1 : Rat) = (s.2.1 : Rat) / s.2.2 * (ptS s).2.2 := by
    unfold vy val qy at v2
    rw [← v2]
    grind
  rw [w1, w2]
  grind
theorem forms_some {k : Nat} (hk : k ≤ 60) {p q : Int} (hp : p.natAbs ≤ 2 ^ 200) (hq : q.natAbs ≤ 2 ^ 200) : ∀ {L : List Spot}, (∀ s ∈ L, SzS k s) → Mr.formsO p q (L.map ptS) = some (L.map fun s => (worthS p q s, ptS s))
  | [], _ => rfl
  | s :: L, h => by
    show Mr.formsO p q (ptS s :: L.map ptS) = _
    unfold Mr.formsO
    rw [formO_some (h s List.mem_cons_self) hk hp hq, Option.bind_some, forms_some hk hp hq fun t ht => h t (List.mem_cons_of_mem _ ht), Option.bind_some]
    rfl
theorem worth_sz {s : Spot} {k : Nat} (h : SzS k s) (hk : k ≤ 60) {p q : Int} (hp : p.natAbs ≤ 2 ^ 200) (hq : q.natAbs ≤ 2 ^ 200) : Sz (k + 201) (worthS p q s) :=
  sz_nrm h.z (add_pow (k := k + 200) (by rw [Nat.add_comm]; exact mul_pow hp h.a) (by rw [Nat.add_comm]; exact mul_pow hq h.b) (by omega)) (up_pow h.c (by omega))
theorem endsL_some {k : Nat} (hk : k ≤ 60) {p q : Int} (hp : p.natAbs ≤ 2 ^ 200) (hq : q.natAbs ≤ 2 ^ 200) : ∀ {L : List Spot}, (∀ s ∈ L, SzS k s) → ∀ (a b : Mr.Fr × Mr.Pt), Sz (k + 201) a.1 → Sz (k + 201) b.1 → ∃ r, Mr.endsL (L.map fun s => (worthS p q s, ptS s)) a b = some r ∧ endF true p q L (some a) = some r.1 ∧ endF false p q L (some b) = some r.2
  | [], _, a, b, _, _ => ⟨(a, b), rfl, rfl, rfl⟩
  | s :: L, h, a, b, ha, hb => by
    have hw := worth_sz (h s List.mem_cons_self) hk hp hq
    obtain ⟨r, e, f1, f2⟩ := endsL_some hk hp hq (L := L) (fun t ht => h t (List.mem_cons_of_mem _ ht))
      (if ltFr (worthS p q s) a.1 = true then (worthS p q s, ptS s) else a) (if ltFr b.1 (worthS p q s) = true then (worthS p q s, ptS s) else b)
      (by split; exact hw; exact ha) (by split; exact hw; exact hb)
    refine ⟨r, ?_, ?_, ?_⟩
    · show Mr.endsL ((worthS p q s, ptS s) :: L.map _) a b = _
      unfold Mr.endsL
      rw [belowO_some hw ha (by omega), Option.bind_some, belowO_some hb hw (by omega), Option.bind_some]
      rw [← e]
      unfold ltFr
      congr 1
      · show (match decide ((worthS p q s).1 * a.1.2 < a.1.1 * (worthS p q s).2) with
          | true => (worthS p q s, ptS s)
          | false => a) = _
        cases decide ((worthS p q s).1 * a.1.2 < a.1.1 * (worthS p q s).2) <;> rfl
      · show (match decide (b.1.1 * (worthS p q s).2 < (worthS p q s).1 * b.1.2) with
          | true => (worthS p q s, ptS s)
          | false => b) = _
        cases decide (b.1.1 * (worthS p q s).2 < (worthS p q s).1 * b.1.2) <;> rfl
    · rw [← f1]
      show endF true p q L (if ltFr (worthS p q s) a.1 = true then _ else _) = _
      split <;> rfl
    · rw [← f2]
      show endF false p q L (if ltFr b.1 (worthS p q s) = true then _ else _) = _
      split <;> rfl
theorem ends_own {k : Nat} (hk : k ≤ 60) {p q : Int} (hp : p.natAbs ≤ 2 ^ 200) (hq : q.natAbs ≤ 2 ^ 200) {L : List Spot} (h : ∀ s ∈ L, SzS k s) (h0 : L ≠ []) : ∃ r, Mr.endsO (L.map ptS) p q = some r ∧ endF true p q L none = some r.1 ∧ endF false p q L none = some r.2 := by
  cases L with
  | nil => exact absurd rfl h0
  | cons s L =>
    have hw := worth_sz (h s List.mem_cons_self) hk hp hq
    obtain ⟨r, e, f1, f2⟩ := endsL_some hk hp hq (L := L) (fun t ht => h t (List.mem_cons_of_mem _ ht)) (worthS p q s, ptS s) (worthS p q s, ptS s) hw hw
    refine ⟨r, ?_, f1, f2⟩
    unfold Mr.endsO
    rw [forms_some hk hp hq h, Option.bind_some]
    exact e
end Ra
set_option maxHeartbeats 200000
/-! where of a shape by rows of its spots -/
namespace Ra
open Hs Hp Vy
def overS (row s : Spot) : Int := row.1 * s.1 + row.2.1 * s.2.1 - row.2.2 * s.2.2
def alg (o e : Spot) : Int × Int := (e.1 * o.2.2 - o.1 * e.2.2, e.2.1 * o.2.2 - o.2.1 * e.2.2)
def rowR (o e : Spot) : Spot := ((alg o e).2 * o.2.2, -(alg o e).1 * o.2.2, (alg o e).2 * o.1 - (alg o e).1 * o.2.1)
def rowA (o e : Spot) : Spot := ((alg o e).1 * e.2.2, (alg o e).2 * e.2.2, (alg o e).1 * e.1 + (alg o e).2 * e.2.1)
def rowsF (two : Bool) : List (Spot × Spot) → List Spot
  | [] => []
  | p :: l => rowR p.1 p.2 :: (if two = true then rowA p.1 p.2 :: rowsF two l else rowsF two l)
def ownRows (L : List Spot) : List Spot := match L with
  | [s] => [(s.2.2, 0, s.1), (-s.2.2, 0, -s.1), (0, s.2.2, s.2.1), (0, -s.2.2, -s.2.1)]
  | L => rowsF (decide (L.length = 2)) (rnd L)
def ownWhere (L : List Spot) (s : Spot) : Int :=
  if L = [] then -1 else
  if (ownRows L).any (fun r => decide (overS r s > 0)) = true then -1 else
  if L.length > 2 ∧ (ownRows L).all (fun r => decide (overS r s < 0)) = true then 1 else 0
/-- a half plane and a row tell the same -/
def Pl (x : Mr.Hp) (row : Spot) : Prop := ∃ a b c : Rat, HpV 81 x a b c ∧ ∃ K : Rat, 0 < K ∧ ∀ s : Spot, 0 < s.2.2 → (overS row s : Rat) = K * (s.2.2 : Rat) * (a * qx s + b * qy s - c)
def sideIs (p : Mr.Pt) (x : Mr.Hp) (c : Int) : Prop := ∃ w, Mr.worthO p x.a x.b = some w ∧ Mr.comparedO x.high w = some c
theorem pos_iff {K v : Rat} (h : 0 < K) : (0 < K * v ↔ 0 < v) ∧ (K * v < 0 ↔ v < 0) := by
  have e0 : K * 0 = 0 := by grind
  constructor
  · have := Rat.mul_lt_mul_left (a := 0) (b := v) h
    rwa [e0] at this
  · have := Rat.mul_lt_mul_left (a := v) (b := 0) h
    rwa [e0] at this
theorem pl_side {x : Mr.Hp} {row : Spot} (h : Pl x row) {s : Spot} (hs : SzS 40 s) : ∃ c, sideIs (ptS s) x c ∧ (c < 0 ↔ 0 < overS row s) ∧ (0 < c ↔ overS row s < 0) := by
  obtain ⟨a, b, c, hv, K, hK, hover⟩ := h
  obtain ⟨w, e1, s1, v1⟩ := worthO_some ((szP hs)) (hv.za) (hv.zb) (by omega)
  obtain ⟨d, e2, d1, d2⟩ := comparedO_some hv.zc s1 (by omega)
  have ho := hover s hs.z
  have z := pos_q hs.z
  rw [v1, hv.c, hv.a, hv.b, vx_ptS hs.z, vy_ptS hs.z] at d1 d2
  have kk : (0 : Rat) < K * (s.2.2 : Rat) := Rat.mul_pos hK z
  obtain ⟨p1, p2⟩ := pos_iff (v := a * qx s + b * qy s - c) kk
  rw [← ho] at p1 p2
  have q1 : (0 : Rat) < (overS row s : Rat) ↔ 0 < overS row s := by
    have := Rat.intCast_lt_intCast (a := 0) (b := overS row s)
    simpa using this
  have q2 : (overS row s : Rat) < 0 ↔ overS row s < 0 := by
    have := Rat.intCast_lt_intCast (a := overS row s) (b := 0)
    simpa using this
  refine ⟨d, ⟨w, e1, e2⟩, ?_, ?_⟩
  · rw [d1, ← q1, p1]
    constructor <;> intro h <;> grind
  · rw [d2, ← q2, p2]
    constructor <;> intro h <;> grind
theorem pl_right {o e : Spot} {k : Nat} (ho : SzS 40 o) (he : SzS 40 e) : ∃ x, Mr.rightOfO (ptS o) (ptS e) = some x ∧ Pl x (rowR o e) := by
  obtain ⟨x, e1, hv⟩ := rightO_some (szP ho) (szP he) (by omega)
  rw [vx_ptS ho.z, vy_ptS ho.z, vx_ptS he.z, vy_ptS he.z] at hv
  refine ⟨x, e1, _, _, _, hv, (o.2.2 : Rat) * o.2.2 * e.2.2, Rat.mul_pos (Rat.mul_pos (pos_q ho.z) (pos_q ho.z)) (pos_q he.z), fun s hs => ?_⟩
  unfold overS rowR alg qx qy
  simp only [Rat.intCast_add, Rat.intCast_mul, Rat.intCast_sub, Rat.intCast_neg]
  have n1 := pos_ne ho.z
  have n2 := pos_ne he.z
  have n3 := pos_ne hs
  grind
theorem pl_along {o e : Spot} {k : Nat} (ho : SzS 40 o) (he : SzS 40 e) : ∃ x, Mr.alongO (ptS o) (ptS e) = some x ∧ Pl x (rowA o e) := by
  obtain ⟨x, e1, hv⟩ := alongO_some (szP ho) (szP he) (by omega)
  rw [vx_ptS ho.z, vy_ptS ho.z, vx_ptS he.z, vy_ptS he.z] at hv
  refine ⟨x, e1, _, _, _, hv, (e.2.2 : Rat) * o.2.2 * e.2.2, Rat.mul_pos (Rat.mul_pos (pos_q he.z) (pos_q ho.z)) (pos_q he.z), fun s hs => ?_⟩
  unfold overS rowA alg qx qy
  simp only [Rat.intCast_add, Rat.intCast_mul, Rat.intCast_sub, Rat.intCast_neg]
  have n1 := pos_ne ho.z
  have n2 := pos_ne he.z
  have n3 := pos_ne hs
  grind
theorem val_whole (i : Int) : val (i, 1) = (i : Rat) := by
  show (i : Rat) / ((1 : Int) : Rat) = i
  have : ((1 : Int) : Rat) = 1 := rfl
  rw [this]
  grind
theorem val_turned (x : Mr.Fr) : val (Mr.turnedF x) = -val x := by
  unfold Mr.turnedF
  rw [fI1]
  show ((-x.1 : Int) : Rat) / _ = -(_ / _)
  rw [Rat.intCast_neg]
  grind
theorem sz_turned {k : Nat} {x : Mr.Fr} (h : Sz k x) : Sz k (Mr.turnedF x) := by
  unfold Mr.turnedF
  rw [fI1]
  exact ⟨h.z, by show (-x.1).natAbs ≤ _; rw [Int.natAbs_neg]; exact h.a, h.b⟩
theorem sz_one {k : Nat} {i : Int} (h : i.natAbs ≤ 1) : Sz k (i, 1) := ⟨show (0 : Int) < 1 by decide, Nat.le_trans h Nat.one_le_two_pow, Nat.one_le_two_pow⟩
theorem pl_point {s : Spot} (hs : SzS 40 s) : Pl ⟨(1, 1), (0, 1), (ptS s).1⟩ (s.2.2, 0, s.1) ∧ Pl ⟨(-1, 1), (0, 1), Mr.turnedF (ptS s).1⟩ (-s.2.2, 0, -s.1) ∧ Pl ⟨(0, 1), (1, 1), (ptS s).2⟩ (0, s.2.2, s.2.1) ∧ Pl ⟨(0, 1), (-1, 1), Mr.turnedF (ptS s).2⟩ (0, -s.2.2, -s.2.1) := by
  have hp := szP hs
  have v1 : val (ptS s).1 = qx s := vx_ptS hs.z
  have v2 : val (ptS s).2 = qy s := vy_ptS hs.z
  have z := pos_q hs.z
  have nz := pos_ne hs.z
  have i1 : ((1 : Int) : Rat) = 1 := rfl
  have i0 : ((0 : Int) : Rat) = 0 := rfl
  have im : ((-1 : Int) : Rat) = -1 := rfl
  refine ⟨⟨1, 0, qx s, ⟨sz_one (by decide), sz_one (by decide), hp.a.up (by omega), val_whole 1, val_whole 0, v1⟩, s.2.2, z, fun t ht => ?_⟩,
    ⟨-1, 0, -qx s, ⟨sz_one (by decide), sz_one (by decide), (sz_turned hp.a).up (by omega), by rw [val_whole, im], val_whole 0, by rw [val_turned, v1]⟩, s.2.2, z, fun t ht => ?_⟩,
    ⟨0, 1, qy s, ⟨sz_one (by decide), sz_one (by decide), hp.b.up (by omega), val_whole 0, val_whole 1, v2⟩, s.2.2, z, fun t ht => ?_⟩,
    ⟨0, -1, -qy s, ⟨sz_one (by decide), sz_one (by decide), (sz_turned hp.b).up (by omega), val_whole 0, by rw [val_whole, im], by rw [val_turned, v2]⟩, s.2.2, z, fun t ht => ?_⟩⟩
  all_goals
    unfold overS qx qy
    simp only [Rat.intCast_add, Rat.intCast_mul, Rat.intCast_sub, Rat.intCast_neg, i0]
    have n3 := pos_ne ht
    grind
/-- planes and rows tell the same, in any sequence -/
structure Pls (hs : List Mr.Hp) (rows : List Spot) : Prop where
  l : ∀ x ∈ hs, ∃ r ∈ rows, Pl x r
  r : ∀ r ∈ rows, ∃ x ∈ hs, Pl x r
  n : hs ≠ []
theorem sides_some {s : Spot} (h : SzS 40 s) : ∀ {hs : List Mr.Hp}, (∀ x ∈ hs, ∃ r, Pl x r) → ∃ sd, Mr.sidesO (ptS s) hs = some sd ∧ sd.length = hs.length ∧ (∀ c ∈ sd, ∃ x ∈ hs, sideIs (ptS s) x c) ∧ (∀ x ∈ hs, ∃ c ∈ sd, sideIs (ptS s) x c)
  | [], _ => ⟨[], rfl, rfl, fun c hc => (nomatch hc), fun x hx => (nomatch hx)⟩
  | x :: hs, hx => by
    obtain ⟨r, hr⟩ := hx x List.mem_cons_self
    obtain ⟨c, ⟨w, e1, e2⟩, _⟩ := pl_side hr h
    obtain ⟨sd, e3, ln, i1, i2⟩ := sides_some h (hs := hs) (fun y hy => hx y (List.mem_cons_of_mem _ hy))
    refine ⟨c :: sd, ?_, by simp [ln], fun d hd => ?_, fun y hy => ?_⟩
    · unfold Mr.sidesO
      rw [e1, Option.bind_some, e2, Option.bind_some, e3, Option.bind_some]
    · rcases List.mem_cons.mp hd with rfl | hd
      · exact ⟨x, List.mem_cons_self, w, e1, e2⟩
      · obtain ⟨y, hy, k⟩ := i1 d hd
        exact ⟨y, List.mem_cons_of_mem _ hy, k⟩
    · rcases List.mem_cons.mp hy with rfl | hy
      · exact ⟨c, List.mem_cons_self, w, e1, e2⟩
      · obtain ⟨d, hd, k⟩ := i2 y hy
        exact ⟨d, List.mem_cons_of_mem _ hd, k⟩
theorem minF_le : ∀ (l : List Int) (a : Int), (Mr.minF l a ≤ a) ∧ (∀ b ∈ l, Mr.minF l a ≤ b) ∧ (Mr.minF l a = a ∨ Mr.minF l a ∈ l)
  | [], a => ⟨Int.le_refl _, fun b hb => (nomatch hb), .inl rfl⟩
  | b :: l, a => by
    unfold Mr.minF
    rw [ltI_eq]
    by_cases h : b < a
    · rw [decide_eq_true h]
      obtain ⟨h1, h2, h3⟩ := minF_le l b
      refine ⟨by show Mr.minF l b ≤ a; omega, fun c hc => ?_, ?_⟩
      · rcases List.mem_cons.mp hc with rfl | hc
        · exact h1
        · exact h2 c hc
      · rcases h3 with h3 | h3
        · right; show Mr.minF l b ∈ _; rw [h3]; exact List.mem_cons_self
        · right; exact List.mem_cons_of_mem _ h3
    · rw [decide_eq_false h]
      obtain ⟨h1, h2, h3⟩ := minF_le l a
      refine ⟨h1, fun c hc => ?_, ?_⟩
      · rcases List.mem_cons.mp hc with rfl | hc
        · show Mr.minF l a ≤ c; omega
        · exact h2 c hc
      · rcases h3 with h3 | h3
        · exact .inl h3
        · right; exact List.mem_cons_of_mem _ h3
theorem minI_iff {l : List Int} (h : l ≠ []) : (Mr.minI l < 0 ↔ ∃ c ∈ l, c < 0) ∧ (0 < Mr.minI l ↔ ∀ c ∈ l, 0 < c) := by
  cases l with
  | nil => exact absurd rfl h
  | cons a l =>
    obtain ⟨h1, h2, h3⟩ := minF_le l a
    show (Mr.minF l a < 0 ↔ _) ∧ (0 < Mr.minF l a ↔ _)
    constructor
    · constructor
      · intro k
        rcases h3 with h3 | h3
        · exact ⟨a, List.mem_cons_self, by omega⟩
        · exact ⟨_, List.mem_cons_of_mem _ h3, k⟩
      · rintro ⟨c, hc, k⟩
        rcases List.mem_cons.mp hc with rfl | hc
        · omega
        · have := h2 c hc; omega
    · constructor
      · intro k c hc
        rcases List.mem_cons.mp hc with rfl | hc
        · omega
        · have := h2 c hc; omega
      · intro k
        rcases h3 with h3 | h3
        · rw [h3]; exact k a List.mem_cons_self
        · exact k _ (List.mem_cons_of_mem _ h3)
theorem negI_eq' (i : Int) : Mr.negI i = decide (i < 0) := by
  cases i with
  | ofNat n => exact (decide_eq_false (show ¬ Int.ofNat n < 0 by simp)).symm
  | negSucc n => exact (decide_eq_true (by omega)).symm
theorem rights_some : ∀ {l : List Spot} {q : Spot}, (∀ s ∈ q :: l, SzS 40 s) → ∃ hs, Mr.rightsO (ptS q) (l.map ptS) = some hs ∧ hs.length = l.length ∧ (∀ x ∈ hs, ∃ p ∈ prs q l, Pl x (rowR p.1 p.2)) ∧ (∀ p ∈ prs q l, ∃ x ∈ hs, Pl x (rowR p.1 p.2))
  | [], q, _ => ⟨[], rfl, rfl, fun x hx => (nomatch hx), fun x hx => (nomatch hx)⟩
  | s :: l, q, h => by
    obtain ⟨x, e1, hx⟩ := pl_right (k := 0) (h q List.mem_cons_self) (h s (by simp))
    obtain ⟨hs, e2, ln, i1, i2⟩ := rights_some (l := l) (q := s) (fun t ht => h t (List.mem_cons_of_mem _ ht))
    refine ⟨x :: hs, ?_, by simp [ln], fun y hy => ?_, fun p hp => ?_⟩
    · show Mr.rightsO (ptS q) (ptS s :: l.map ptS) = _
      unfold Mr.rightsO
      rw [e1, Option.bind_some, e2, Option.bind_some]
    · rcases List.mem_cons.mp hy with rfl | hy
      · exact ⟨(q, s), List.mem_cons_self, hx⟩
      · obtain ⟨p, hp, k⟩ := i1 y hy
        exact ⟨p, List.mem_cons_of_mem _ hp, k⟩
    · rcases List.mem_cons.mp hp with rfl | hp
      · exact ⟨x, List.mem_cons_self, hx⟩
      · obtain ⟨y, hy, k⟩ := i2 p hp
        exact ⟨y, List.mem_cons_of_mem _ hy, k⟩
theorem rowsF_one : ∀ l : List (Spot × Spot), rowsF false l = l.map fun p => rowR p.1 p.2
  | [] => rfl
  | p :: l => by
    show rowR p.1 p.2 :: rowsF false l = _
    rw [rowsF_one l]
    rfl
theorem planes_some {L : List Spot} (h : ∀ s ∈ L, SzS 40 s) (h0 : L ≠ []) : ∃ hs, Mr.halfPlanesO (L.map ptS) = some hs ∧ Pls hs (ownRows L) := by
  match L, h, h0 with
  | [], _, h0 => exact absurd rfl h0
  | [s], h, _ =>
    obtain ⟨p1, p2, p3, p4⟩ := pl_point (h s (by simp))
    refine ⟨_, rfl, fun x hx => ?_, fun r hr => ?_, by simp⟩
    · simp only [List.mem_cons, List.not_mem_nil, or_false] at hx
      rcases hx with rfl | rfl | rfl | rfl
      · exact ⟨_, by simp [ownRows], p1⟩
      · exact ⟨_, by simp [ownRows], p2⟩
      · exact ⟨_, by simp [ownRows], p3⟩
      · exact ⟨_, by simp [ownRows], p4⟩
    · simp only [ownRows, List.mem_cons, List.not_mem_nil, or_false] at hr
      rcases hr with rfl | rfl | rfl | rfl
      · exact ⟨_, by simp, p1⟩
      · exact ⟨_, by simp, p2⟩
      · exact ⟨_, by simp, p3⟩
      · exact ⟨_, by simp, p4⟩
  | [o, e], h, _ =>
    have ho := h o (by simp)
    have he := h e (by simp)
    obtain ⟨x1, e1, h1⟩ := pl_right (k := 0) ho he
    obtain ⟨x2, e2, h2⟩ := pl_right (k := 0) he ho
    obtain ⟨x3, e3, h3⟩ := pl_along (k := 0) ho he
    obtain ⟨x4, e4, h4⟩ := pl_along (k := 0) he ho
    have er : ownRows [o, e] = [rowR o e, rowA o e, rowR e o, rowA e o] := rfl
    refine ⟨[x1, x2, x3, x4], ?_, fun x hx => ?_, fun r hr => ?_, by simp⟩
    · show Mr.halfPlanesO [ptS o, ptS e] = _
      unfold Mr.halfPlanesO
      show ((Mr.rightOfO (ptS o) (ptS e)).bind fun a => (Mr.rightOfO (ptS e) (ptS o)).bind fun b => (Mr.alongO (ptS o) (ptS e)).bind fun c => (Mr.alongO (ptS e) (ptS o)).bind fun d => some [a, b, c, d]) = _
      rw [e1, Option.bind_some, e2, Option.bind_some, e3, Option.bind_some, e4, Option.bind_some]
    · rw [er]
      simp only [List.mem_cons, List.not_mem_nil, or_false] at hx
      rcases hx with rfl | rfl | rfl | rfl
      · exact ⟨_, by simp, h1⟩
      · exact ⟨_, by simp, h2⟩
      · exact ⟨_, by simp, h3⟩
      · exact ⟨_, by simp, h4⟩
    · rw [er] at hr
      simp only [List.mem_cons, List.not_mem_nil, or_false] at hr
      rcases hr with rfl | rfl | rfl | rfl
      · exact ⟨_, by simp, h1⟩
      · exact ⟨_, by simp, h3⟩
      · exact ⟨_, by simp, h2⟩
      · exact ⟨_, by simp, h4⟩
  | a :: b :: c :: l, h, _ =>
    obtain ⟨Lm, hL⟩ : ∃ Lm, a :: b :: c :: l = Lm := ⟨_, rfl⟩
    obtain ⟨q, hq⟩ : ∃ q, (a :: b :: c :: l).getLastD a = q := ⟨_, rfl⟩
    have qm : q ∈ a :: b :: c :: l := by rw [← hq]; exact last_mem _ _
    obtain ⟨hs, e1, ln, i1, i2⟩ := rights_some (l := a :: b :: c :: l) (q := q) (fun s hs => by
      rcases List.mem_cons.mp hs with rfl | hs
      · exact h _ qm
      · exact h s hs)
    have er : ownRows (a :: b :: c :: l) = (rnd (a :: b :: c :: l)).map fun p => rowR p.1 p.2 := by
      show rowsF (decide ((a :: b :: c :: l).length = 2)) _ = _
      rw [decide_eq_false (by simp)]
      exact rowsF_one _
    have mem : ∀ p, p ∈ rnd (a :: b :: c :: l) ↔ p ∈ prs q (a :: b :: c :: l) := fun p => by
      rw [rnd_cons, hq]
      show p ∈ prs a (b :: c :: l) ++ [(q, a)] ↔ p ∈ (q, a) :: prs a (b :: c :: l)
      rw [List.mem_append, List.mem_cons]
      simp [or_comm]
    refine ⟨hs, ?_, fun x hx => ?_, fun r hr => ?_, ?_⟩
    · show Mr.rightsO ((ptS a :: ptS b :: ptS c :: l.map ptS).getLastD (ptS a)) (ptS a :: ptS b :: ptS c :: l.map ptS) = some hs
      have e2 : (ptS a :: ptS b :: ptS c :: l.map ptS).getLastD (ptS a) = ptS q := by
        rw [← hq, List.getLastD_eq_getLast?, List.getLastD_eq_getLast?]
        show (((a :: b :: c :: l).map ptS).getLast?).getD _ = _
        rw [List.getLast?_map, List.getLast?_cons]
        rfl
      rw [e2]
      exact e1
    · obtain ⟨p, hp, k⟩ := i1 x hx
      rw [er]
      exact ⟨_, List.mem_map.mpr ⟨p, (mem p).mpr hp, rfl⟩, k⟩
    · rw [er] at hr
      obtain ⟨p, hp, rfl⟩ := List.mem_map.mp hr
      exact i2 p ((mem p).mp hp)
    · intro hn
      rw [hn] at ln
      simp at ln
theorem side_uniq {p : Mr.Pt} {x : Mr.Hp} {c d : Int} (h1 : sideIs p x c) (h2 : sideIs p x d) : c = d := by
  obtain ⟨w, a1, a2⟩ := h1
  obtain ⟨v, b1, b2⟩ := h2
  rw [a1] at b1
  cases b1
  rw [a2] at b2
  exact Option.some.inj b2
theorem where_own {L : List Spot} (h : ∀ s ∈ L, SzS 40 s) {s : Spot} (hs : SzS 40 s) : Mr.whereO (L.map ptS) (ptS s) = some (ownWhere L s) := by
  by_cases h0 : L = []
  · subst h0; rfl
  obtain ⟨hp, e1, P⟩ := planes_some h h0
  obtain ⟨sd, e2, ln, i1, i2⟩ := sides_some hs (hs := hp) (fun x hx => by
    obtain ⟨r, _, k⟩ := P.l x hx
    exact ⟨r, k⟩)
  have sn : sd ≠ [] := fun z => P.n (by rw [z] at ln; exact List.length_eq_zero_iff.mp ln.symm)
  obtain ⟨m1, m2⟩ := minI_iff sn
  have k1 : (∃ c ∈ sd, c < 0) ↔ ∃ r ∈ ownRows L, 0 < overS r s := by
    constructor
    · rintro ⟨c, hc, k⟩
      obtain ⟨x, hx, sx⟩ := i1 c hc
      obtain ⟨r, hr, pr⟩ := P.l x hx
      obtain ⟨d, sd', t1, t2⟩ := pl_side pr hs
      rw [side_uniq sx sd'] at k
      exact ⟨r, hr, t1.mp k⟩
    · rintro ⟨r, hr, k⟩
      obtain ⟨x, hx, pr⟩ := P.r r hr
      obtain ⟨d, sd', t1, t2⟩ := pl_side pr hs
      obtain ⟨c, hc, sx⟩ := i2 x hx
      rw [side_uniq sd' sx] at t1
      exact ⟨c, hc, t1.mpr k⟩
  have k2 : (∀ c ∈ sd, 0 < c) ↔ ∀ r ∈ ownRows L, overS r s < 0 := by
    constructor
    · intro k r hr
      obtain ⟨x, hx, pr⟩ := P.r r hr
      obtain ⟨d, sd', t1, t2⟩ := pl_side pr hs
      obtain ⟨c, hc, sx⟩ := i2 x hx
      rw [side_uniq sd' sx] at t2
      exact t2.mp (k c hc)
    · intro k c hc
      obtain ⟨x, hx, sx⟩ := i1 c hc
      obtain ⟨r, hr, pr⟩ := P.l x hx
      obtain ⟨d, sd', t1, t2⟩ := pl_side pr hs
      rw [side_uniq sx sd']
      exact t2.mpr (k r hr)
  have w1 : (ownRows L).any (fun r => decide (overS r s > 0)) = decide (Mr.minI sd < 0) := by
    rw [Bool.eq_iff_iff]
    simp only [List.any_eq_true, decide_eq_true_eq, m1, k1]
  have w2 : (ownRows L).all (fun r => decide (overS r s < 0)) = decide (0 < Mr.minI sd) := by
    rw [Bool.eq_iff_iff]
    simp only [List.all_eq_true, decide_eq_true_eq, m2, k2]
  have e3 : Mr.whereO (L.map ptS) (ptS s) = match Mr.negI (Mr.minI sd) with
      | true => some (-1)
      | false => match Nat.blt 2 (L.map ptS).length && Mr.posI (Mr.minI sd) with
        | true => some 1
        | false => some 0 := by
    cases L with
    | nil => exact absurd rfl h0
    | cons a L =>
      show (Mr.halfPlanesO ((a :: L).map ptS)).bind _ = _
      rw [e1, Option.bind_some, e2, Option.bind_some]
      all_goals rfl
  rw [e3, negI_eq', posI_eq, List.length_map]
  unfold ownWhere
  rw [if_neg h0, w1, w2]
  have bl : Nat.blt 2 L.length = decide (2 < L.length) := by rw [Bool.eq_iff_iff, Nat.blt_eq, decide_eq_true_eq]
  rw [bl]
  by_cases c1 : Mr.minI sd < 0
  · simp [c1]
  · by_cases c2 : 2 < L.length
    · by_cases c3 : 0 < Mr.minI sd
      · simp [c1, c2, c3]
      · simp [c1, c2, c3]
    · simp [c1, c2]
end Ra
set_option maxHeartbeats 200000
/-! a hull's corners, as spots -/
namespace Ra
open Hs Hp Vy Hu
theorem fwd_prs {P : Pr → Pr → Prop} : ∀ {l : List Pr} {x : Pr}, Fwd P (x :: l) → ∀ p ∈ prs x l, P p.1 p.2
  | [], _, _, _, h => nomatch h
  | b :: l, x, f, p, h => by
    rcases List.mem_cons.mp h with rfl | h
    · exact f.1
    · exact fwd_prs f.2 p h
theorem hull_next {l : List Pr} (h2 : 2 ≤ (hullF (Hp.srt l)).length) : ∀ p ∈ rnd (hullF (Hp.srt l)), Nx (Hp.srt l) p.1 p.2 := by
  obtain ⟨s1, s2⟩ := Hp.srt_spec l
  generalize Hp.srt l = D at s1 h2
  match D, s1, h2 with
  | [], _, h2 => exact absurd h2 (by decide)
  | [a], _, h2 => exact absurd h2 (by show ¬ 2 ≤ 1; omega)
  | p :: q :: D, s1, h2 =>
    obtain ⟨t, h1, hc, _, _⟩ := hull_closed s1
    rw [h1]
    intro r hr
    have e : rnd (p :: t) = prs p (t ++ [p]) := by
      show (p :: t).zip (t ++ [p]) = _
      exact zip_prs t p p
    rw [e] at hr
    exact fwd_prs hc.way r hr
theorem rnd_map {α β : Type} (f : α → β) (l : List α) : rnd (l.map f) = (rnd l).map fun p => (f p.1, f p.2) := by
  unfold rnd
  rw [← List.map_drop, ← List.map_take, ← List.map_append, List.zip_map]
  rfl
/-- the corners of drawn points, as the law tells them -/
structure Crn (S : List Mr.Pt) (R : List Spot) : Prop where
  own : ownS (S.map spot) = some R
  sz : ∀ s ∈ R, SzS 11 s
  len : R.length ≤ S.length
  mem : ∀ p ∈ R.map ptS, p ∈ S
  again : Mr.hullO (R.map ptS) = some (R.map ptS)
  rep : ∀ s ∈ R, Rep 6 s (phi 6 s)
  hull : R.map (phi 6) = hullF (Hp.srt ((S.map spot).map (phi 6)))
theorem crn_of {S : List Mr.Pt} (hb : ∀ x ∈ S, Bd 6 x) (h200 : ∀ x ∈ S, x.1.1.natAbs ≤ 200 ∧ x.2.1.natAbs ≤ 200) (hl : S.length ≤ 60) : ∃ R, Crn S R := by
  have h6 : (0 : Int) < 6 := by decide
  have h62 : (6 : Int) ≤ 2 ^ 20 := by decide
  obtain ⟨D, d1, d2, d3, d4⟩ := due_again h6 h62 hb (by omega)
  have bdD : ∀ x ∈ D, Bd 6 x := fun x hx => hb x (d2 x hx)
  obtain ⟨R, r1, r2, r3⟩ := own_ok (b := 6) h6 (l := S.map spot) (fun s hs => by
    obtain ⟨p, hp, rfl⟩ := List.mem_map.mp hs
    exact ⟨_, rep_spot (hb p hp).z1 (hb p hp).z2 (hb p hp).d1 (hb p hp).d2⟩)
  have rd : R.map ptS = D := by
    have := d1
    unfold dueP at this
    rw [r1] at this
    exact Option.some.inj this
  refine ⟨R, r1, fun s hs => ?_, by rw [← rd, List.length_map] at d3; exact d3, by rw [rd]; exact d2, by rw [rd, hull_due h6 h62 bdD (by omega), d4], fun s hs => (r3 s hs).rep, r2⟩
  have p := r3 s hs
  have t : Rep 6 ((phi 6 s).1, (phi 6 s).2, 6) (phi 6 s) := ⟨show (0 : Int) < 6 from by decide, rfl, rfl⟩
  have z6 := Nat.le_of_dvd (show 0 < (6 : Int).natAbs from by decide) (dvd_of h6 p.rep t p.one)
  have z6 : s.2.2.natAbs ≤ 6 := z6
  have z0 := p.rep.z
  have pm : ptS s ∈ S := d2 _ (by rw [← rd]; exact List.mem_map_of_mem hs)
  obtain ⟨q1, q2⟩ := h200 _ pm
  have k : ∀ {x : Int}, (nrm x s.2.2).1.natAbs ≤ 200 → x.natAbs ≤ 2 ^ 11 := fun {x} h => by
    obtain ⟨g, g0, e1, e2, z, _⟩ := nrm_spec (t := x) z0
    have a1 : x.natAbs = g.natAbs * (nrm x s.2.2).1.natAbs := by
      have := congrArg Int.natAbs e1
      rwa [Int.natAbs_mul] at this
    have a2 : s.2.2.natAbs = g.natAbs * (nrm x s.2.2).2.natAbs := by
      have := congrArg Int.natAbs e2
      rwa [Int.natAbs_mul] at this
    have a3 : g.natAbs ≤ 6 := by
      have : g.natAbs * 1 ≤ g.natAbs * (nrm x s.2.2).2.natAbs := Nat.mul_le_mul_left _ (by omega)
      omega
    have := Nat.mul_le_mul a3 h
    omega
  exact ⟨z0, k q1, k q2, by omega⟩
theorem Crn.next {S : List Mr.Pt} {R : List Spot} (c : Crn S R) (h2 : 2 ≤ R.length) : ∀ p ∈ rnd R, Nx (Hp.srt ((S.map spot).map (phi 6))) (phi 6 p.1) (phi 6 p.2) := fun p hp => by
  refine hull_next (by rw [← c.hull, List.length_map]; exact h2) (phi 6 p.1, phi 6 p.2) ?_
  rw [← c.hull, rnd_map]
  exact List.mem_map.mpr ⟨p, hp, rfl⟩
theorem Crn.side {S : List Mr.Pt} {R : List Spot} (c : Crn S R) (h2 : 2 ≤ R.length) : ∀ p ∈ rnd R, ¬ ((alg p.1 p.2).1 = 0 ∧ (alg p.1 p.2).2 = 0) := fun p hp h => by
  obtain ⟨m1, m2⟩ := rnd_mem hp
  have r1 := c.rep _ m1
  have r2 := c.rep _ m2
  obtain ⟨_, a⟩ := scale (by decide) r2.z r1.z r2.x r1.x
  obtain ⟨_, b⟩ := scale (by decide) r2.z r1.z r2.y r1.y
  have h1 : p.2.1 * p.1.2.2 - p.1.1 * p.2.2.2 = 0 := h.1
  have h3 : p.2.2.1 * p.1.2.2 - p.1.2.1 * p.2.2.2 = 0 := h.2
  have x := a.mp (by omega)
  have y := b.mp (by omega)
  exact (c.next h2 p hp).ne (Prod.ext x.symm y.symm)
theorem okShape_of {R : List Spot} {D : List Mr.Pt} (e : R.map ptS = D) (hp : ∀ p ∈ D, Mr.isPt p = true) (hl : D.length ≤ 1000) (h : Mr.hullO D = some D) (q : ∀ a b : List Mr.Pt, Mr.eqSh a b = decide (a = b)) : Mr.okShape D = true := by
  unfold Mr.okShape Mr.isShapeO
  rw [List.all_eq_true.mpr hp, Nat.ble_eq.mpr hl]
  dsimp only
  rw [h, Option.bind_some, q]
  simp
end Ra
set_option maxHeartbeats 4000000
namespace Vy
open PySem
theorem gcd_loop (Γ : Ev) (h : Hm) : ∀ (b a : Nat), ∃ n, whileF (fun σ1 h1 => truR (eX Γ w_common_1 σ1 h1)) (fun σ1 h1 => eSs Γ b_common_1 σ1 h1) n [some (.int a), some (.int b)] h = some (.ok (.nx [some (.int (Nat.gcd a b : Nat)), some (.int 0)]) h) := by
  intro b
  induction b using Nat.strongRecOn with
  | _ b ih =>
    intro a
    by_cases hb : b = 0
    · subst hb
      refine ⟨1, ?_⟩
      simp [whileF, w_common_1]
    · obtain ⟨n, hn⟩ := ih (a % b) (Nat.mod_lt _ (by omega)) b
      refine ⟨n + 1, ?_⟩
      have hm : binV .mod (.int a) (.int b) h = .ok (.int ((a % b : Nat) : Int)) h := by
        rw [b_mod (by omega), Int.fmod_eq_emod_of_nonneg _ (by omega)]
        rfl
      have e1 : truR (eX Γ w_common_1 [some (.int a), some (.int b)] h) = .ok true h := by
        simp [w_common_1, hb]
      have e2 : eSs Γ b_common_1 [some (.int a), some (.int b)] h = .ok (.nx [some (.int b), some (.int ((a % b : Nat) : Int))]) h := by
        simp [b_common_1, hm, sizeLine]
      unfold whileF
      rw [e1]
      dsimp only
      rw [e2]
      dsimp only
      rw [hn]
      have : Nat.gcd b (a % b) = Nat.gcd a b := by rw [Nat.gcd_comm a b, Nat.gcd_rec b a, Nat.gcd_comm]
      rw [this]
theorem abs_eq (i : Int) : (if i < 0 then -i else i) = (i.natAbs : Int) := by split <;> omega
@[simp] theorem bi_abs {h : Hm} {i : Int} : biV .abs [.int i] h = .ok (.int (i.natAbs : Int)) h := by
  show Res.ok (Va.int (if i < 0 then -i else i)) h = _
  rw [abs_eq]
theorem c_common (l : Nat) (i j : Int) (h : Hm) : gcR h (CC (l + 1) (Str.ofString "common") [.int i, .int j] h) = .ok (.int (Nat.gcd i.natAbs j.natAbs : Nat)) h := by
  rw [n_common]
  have e : eS (GA l) s_common_1 [some (.int i.natAbs), some (.int j.natAbs)] h = .ok (.nx [some (.int (Nat.gcd i.natAbs j.natAbs : Nat)), some (.int 0)]) h := es_whl (gcd_loop (GA l) h j.natAbs i.natAbs)
  simp [i_common, e, sizeLine]
theorem dv_ok {j : Int} (e : Mr.dvN j = true) : divOk 0 j := by
  unfold Mr.dvN at e
  split at e
  · cases e
  · rename_i n hn
    refine ⟨by omega, ?_⟩
    rw [hn]
    exact Nat.blt_eq.mp e
theorem dv_of {i j : Int} (e : divOk 0 j) : divOk i j := e
theorem sm_ok {i j : Int} (e : Mr.smN i j = true) : mulOk i j := Nat.blt_eq.mp e
/-- top and bottom in lowest terms -/
def frT (t b : Int) : Int := if 0 < b then t.fdiv (Nat.gcd t.natAbs b.natAbs : Nat) else t.fdiv (-(Nat.gcd t.natAbs b.natAbs : Nat))
def frB (t b : Int) : Int := if 0 < b then b.fdiv (Nat.gcd t.natAbs b.natAbs : Nat) else b.fdiv (-(Nat.gcd t.natAbs b.natAbs : Nat))
theorem frO_ok {t b : Int} {r : Mr.Fr} (e : Mr.frO t b = some r) : divOk 0 b ∧ r = (frT t b, frB t b) := by
  unfold Mr.frO at e
  split at e
  · rename_i hd
    refine ⟨dv_ok hd, ?_⟩
    simp only [fN_eq, fI_eq, posI_eq] at e
    split at e
    · rename_i hp
      have hp : 0 < b := by simpa using hp
      cases e
      simp [frT, frB, hp]
    · rename_i hp
      have hp : ¬ 0 < b := by simpa using hp
      cases e
      simp only [frT, frB, if_neg hp]
      rfl
  · cases e
theorem c_fraction {t b : Int} {r : Mr.Fr} (e : Mr.frO t b = some r) (l : Nat) (h : Hm) : gcR h (CC (l + 2) (Str.ofString "fraction") [.int t, .int b] h) = .ok (fr r) h := by
  obtain ⟨⟨hb, hs⟩, rfl⟩ := frO_ok e
  rw [n_fraction]
  have hg : 0 < Nat.gcd t.natAbs b.natAbs := Nat.gcd_pos_of_pos_right _ (by omega)
  have hl : Nat.gcd t.natAbs b.natAbs ≤ b.natAbs := Nat.gcd_le_right _ (by omega)
  have hlog := Nat.lt_of_le_of_lt (log2_mono hl) hs
  have o1 : ∀ i, divOk i (Nat.gcd t.natAbs b.natAbs : Nat) := fun i => ⟨by omega, by simpa using hlog⟩
  have o2 : ∀ i, divOk i (-(Nat.gcd t.natAbs b.natAbs : Nat)) := fun i => ⟨by omega, by simpa using hlog⟩
  by_cases h0 : 0 < b
  · simp [i_fraction, c_common, h0, b_fdiv (o1 t), b_fdiv (o1 b), sizeLine, frT, frB]
  · simp [i_fraction, c_common, h0, b_fdiv (o2 t), b_fdiv (o2 b), sizeLine, frT, frB]
theorem plusO_ok {x y r : Mr.Fr} (e : Mr.plusO x y = some r) : mulOk x.1 y.2 ∧ mulOk y.1 x.2 ∧ mulOk x.2 y.2 ∧ Mr.frO (x.1 * y.2 + y.1 * x.2) (x.2 * y.2) = some r := by
  unfold Mr.plusO at e
  split at e
  · rename_i hs
    simp only [Bool.and_eq_true] at hs
    simp only [fI_eq] at e
    exact ⟨sm_ok hs.1.1, sm_ok hs.1.2, sm_ok hs.2, e⟩
  · cases e
theorem c_plus {x y r : Mr.Fr} (e : Mr.plusO x y = some r) (l : Nat) (h : Hm) : gcR h (CC (l + 3) (Str.ofString "plus") [fr x, fr y] h) = .ok (fr r) h := by
  obtain ⟨m1, m2, m3, e⟩ := plusO_ok e
  rw [n_plus]
  simp [i_plus, b_mul m1, b_mul m2, b_mul m3, c_fraction e]
theorem lessO_ok {x y r : Mr.Fr} (e : Mr.lessO x y = some r) : mulOk x.1 y.2 ∧ mulOk y.1 x.2 ∧ mulOk x.2 y.2 ∧ Mr.frO (x.1 * y.2 - y.1 * x.2) (x.2 * y.2) = some r := by
  unfold Mr.lessO at e
  split at e
  · rename_i hs
    simp only [Bool.and_eq_true] at hs
    simp only [fI_eq] at e
    exact ⟨sm_ok hs.1.1, sm_ok hs.1.2, sm_ok hs.2, e⟩
  · cases e
theorem timesO_ok {x y r : Mr.Fr} (e : Mr.timesO x y = some r) : mulOk x.1 y.1 ∧ mulOk x.2 y.2 ∧ Mr.frO (x.1 * y.1) (x.2 * y.2) = some r := by
  unfold Mr.timesO at e
  split at e
  · rename_i hs
    simp only [Bool.and_eq_true] at hs
    simp only [fI_eq] at e
    exact ⟨sm_ok hs.1, sm_ok hs.2, e⟩
  · cases e
theorem c_times {x y r : Mr.Fr} (e : Mr.timesO x y = some r) (l : Nat) (h : Hm) : gcR h (CC (l + 3) (Str.ofString "times") [fr x, fr y] h) = .ok (fr r) h := by
  obtain ⟨m1, m2, e⟩ := timesO_ok e
  rw [n_times]
  simp [i_times, b_mul m1, b_mul m2, c_fraction e]
theorem overO_ok {x y r : Mr.Fr} (e : Mr.overO x y = some r) : mulOk x.1 y.2 ∧ mulOk x.2 y.1 ∧ Mr.frO (x.1 * y.2) (x.2 * y.1) = some r := by
  unfold Mr.overO at e
  split at e
  · rename_i hs
    simp only [Bool.and_eq_true] at hs
    simp only [fI_eq] at e
    exact ⟨sm_ok hs.1, sm_ok hs.2, e⟩
  · cases e
def sgnI (i : Int) : Int := if 0 < i then 1 else if i = 0 then 0 else -1
theorem comparedO_ok {x y : Mr.Fr} {r : Int} (e : Mr.comparedO x y = some r) : mulOk x.1 y.2 ∧ mulOk y.1 x.2 ∧ r = sgnI (x.1 * y.2 - y.1 * x.2) := by
  unfold Mr.comparedO at e
  split at e
  · rename_i hs
    simp only [Bool.and_eq_true] at hs
    refine ⟨sm_ok hs.1, sm_ok hs.2, ?_⟩
    have hz : Int.sub (Int.mul x.1 y.2) (Int.mul y.1 x.2) = x.1 * y.2 - y.1 * x.2 := rfl
    rw [hz] at e
    generalize x.1 * y.2 - y.1 * x.2 = z at e
    unfold sgnI
    split at e
    · cases e; rfl
    · rename_i n
      cases e
      rw [if_pos (by simp)]
    · cases e
      rw [if_neg (by omega), if_neg (by omega)]
  · cases e
theorem belowO_ok {x y : Mr.Fr} {r : Bool} (e : Mr.belowO x y = some r) : mulOk x.1 y.2 ∧ mulOk y.1 x.2 ∧ r = decide (x.1 * y.2 < y.1 * x.2) := by
  unfold Mr.belowO at e
  split at e
  · rename_i hs
    simp only [Bool.and_eq_true] at hs
    refine ⟨sm_ok hs.1, sm_ok hs.2, ?_⟩
    rw [ltI_eq] at e
    split at e <;> rename_i hd <;> (cases e; exact hd.symm)
  · cases e
theorem c_is_below {x y : Mr.Fr} {r : Bool} (e : Mr.belowO x y = some r) (l : Nat) (h : Hm) : gcR h (CC (l + 1) (Str.ofString "is_below") [fr x, fr y] h) = .ok (.bl r) h := by
  obtain ⟨m1, m2, rfl⟩ := belowO_ok e
  rw [n_is_below]
  simp [i_is_below, b_mul m1, b_mul m2]
@[simp] theorem c_whole (i : Int) (l : Nat) (h : Hm) : gcR h (CC (l + 1) (Str.ofString "whole") [.int i] h) = .ok (fr (i, 1)) h := by
  rw [n_whole]
  simp [i_whole, sizeLine]
@[simp] theorem ty_int {h : Hm} {i : Int} {n : String} : isTy h (.int i) n = some (tyRel "int" n) := rfl
@[simp] theorem ty_tup {h : Hm} {ws : List Va} {n : String} : isTy h (.tup ws) n = some (tyRel "tuple" n) := rfl
@[simp] theorem ty_fr {h : Hm} {x : Int × Int} {n : String} : isTy h (fr x) n = some (tyRel "tuple" n) := rfl
@[simp] theorem ty_pt {h : Hm} {x : Mr.Pt} {n : String} : isTy h (pt x) n = some (tyRel "tuple" n) := rfl
@[simp] theorem ty_sh {h : Hm} {x : List Mr.Pt} {n : String} : isTy h (sh x) n = some (tyRel "tuple" n) := rfl
@[simp] theorem ty_bl {h : Hm} {b : Bool} {n : String} : isTy h (.bl b) n = some (tyRel "bool" n) := rfl
@[simp] theorem ty_str {h : Hm} {b : Str} {n : String} : isTy h (.str b) n = some (tyRel "str" n) := rfl
@[simp] theorem ty_non {h : Hm} {n : String} : isTy h .non n = some (tyRel "NoneType" n) := rfl
theorem bi_inst {h : Hm} {w : Va} {n : String} (e : tyOk n = true) : biV .isinst [w, .ty n] h = ofO h ((isTy h w n).map .bl) := if_pos e
@[simp] theorem bi_int {h : Hm} {w : Va} : biV .isinst [w, .ty "int"] h = ofO h ((isTy h w "int").map .bl) := bi_inst (by decide)
@[simp] theorem bi_bool {h : Hm} {w : Va} : biV .isinst [w, .ty "bool"] h = ofO h ((isTy h w "bool").map .bl) := bi_inst (by decide)
@[simp] theorem bi_str {h : Hm} {w : Va} : biV .isinst [w, .ty "str"] h = ofO h ((isTy h w "str").map .bl) := bi_inst (by decide)
@[simp] theorem bi_tup {h : Hm} {w : Va} : biV .isinst [w, .ty "tuple"] h = ofO h ((isTy h w "tuple").map .bl) := bi_inst (by decide)
@[simp] theorem bi_list {h : Hm} {w : Va} : biV .isinst [w, .ty "list"] h = ofO h ((isTy h w "list").map .bl) := bi_inst (by decide)
@[simp] theorem c_is_whole_int (i : Int) (l : Nat) (h : Hm) : gcR h (CC (l + 1) (Str.ofString "is_whole") [.int i] h) = .ok (.bl true) h := by
  rw [n_is_whole]
  simp [i_whole, i_is_whole, tyRel]
@[simp] theorem c_is_whole_non (l : Nat) (h : Hm) : gcR h (CC (l + 1) (Str.ofString "is_whole") [.non] h) = .ok (.bl false) h := by
  rw [n_is_whole]
  simp [i_whole, i_is_whole, tyRel]
@[simp] theorem c_is_whole_fr (x : Int × Int) (l : Nat) (h : Hm) : gcR h (CC (l + 1) (Str.ofString "is_whole") [fr x] h) = .ok (.bl false) h := by
  rw [n_is_whole]
  simp [i_whole, i_is_whole, tyRel]
@[simp] theorem len_tup {h : Hm} {ws : List Va} : biV .len [.tup ws] h = .ok (.int ws.length) h := rfl
@[simp] theorem len_fr {h : Hm} {x : Int × Int} : biV .len [fr x] h = .ok (.int 2) h := rfl
@[simp] theorem len_pt {h : Hm} {x : Mr.Pt} : biV .len [pt x] h = .ok (.int 2) h := rfl
@[simp] theorem len_sh {h : Hm} {x : List Mr.Pt} : biV .len [sh x] h = .ok (.int x.length) h := by
  rw [show sh x = .tup (x.map pt) from rfl, len_tup, List.length_map]
theorem c_is_tuple (ws : List Va) (a b : Int) (l : Nat) (h : Hm) : gcR h (CC (l + 1) (Str.ofString "is_tuple") [.tup ws, .int a, .int b] h) = .ok (.bl (decide (a ≤ ws.length) && decide (ws.length ≤ b))) h := by
  rw [n_is_tuple]
  simp [i_is_tuple, tyRel, truR_w]
  by_cases h1 : a ≤ ws.length <;> simp [h1]
theorem lc_is_fraction_1 (x : Mr.Fr) (l : Nat) (h : Hm) : eX (GA (l + 1)) x_is_fraction_1 [some (fr x), none] h = .ok (.ref h.length) (h ++ [.lst ([x.1, x.2].map fun _ => .bl true)]) := by
  refine eX_lc (xs := [x.1, x.2]) (enc := .int) (f := fun _ => .bl true) (g := []) (by simp) heldOk_nil (by simp [sizeLine]) fun y _ => ⟨_, rfl, fun u => ?_⟩
  simp [wipeS]
theorem c_is_fraction {x : Mr.Fr} (l : Nat) (h : Hm) : gcR h (CC (l + 2) (Str.ofString "is_fraction") [fr x] h) = .ok (.bl (Mr.isFr x)) h := by
  rw [n_is_fraction]
  have e1 : ∀ a b : Int, gcR h (CC (l + 1) (Str.ofString "is_tuple") [fr x, .int a, .int b] h) = .ok (.bl (decide (a ≤ 2) && decide (2 ≤ b))) h := fun a b => c_is_tuple [.int x.1, .int x.2] a b l h
  have e2 := all_end [x.1, x.2] (fun _ => true) (h := h)
  simp [i_is_fraction, e1, lc_is_fraction_1] at e2 ⊢
  simp [e2, c_common, Mr.isFr, posI_eq]
  by_cases h1 : 1 ≤ x.2
  · have h2 : 0 < x.2 := by omega
    simp [h1, h2]
    rw [Bool.eq_iff_iff]
    simp
    omega
  · have h2 : ¬ 0 < x.2 := by omega
    simp [h1, h2]
end Vy
set_option maxHeartbeats 4000000
namespace Vy
open PySem
theorem c_is_point {p : Mr.Pt} (l : Nat) (h : Hm) : gcR h (CC (l + 3) (Str.ofString "is_point") [pt p] h) = .ok (.bl (Mr.isPt p)) h := by
  rw [n_is_point]
  have e1 : ∀ a b : Int, gcR h (CC (l + 2) (Str.ofString "is_tuple") [pt p, .int a, .int b] h) = .ok (.bl (decide (a ≤ 2) && decide (2 ≤ b))) h := fun a b => c_is_tuple [fr p.1, fr p.2] a b _ h
  simp [i_is_point, e1, c_is_fraction, Mr.isPt]
  cases h1 : Mr.isFr p.1 <;> simp
theorem oneBottomFr_ok {f r : Int} {x : Mr.Fr} (e : Mr.oneBottomFr f x = some r) : divOk 0 (Nat.gcd f.natAbs x.2.natAbs : Nat) ∧ mulOk (f.fdiv (Nat.gcd f.natAbs x.2.natAbs : Nat)) x.2 ∧ r = f.fdiv (Nat.gcd f.natAbs x.2.natAbs : Nat) * x.2 := by
  unfold Mr.oneBottomFr at e
  simp only [fI_eq, Mr.fdivO] at e
  obtain ⟨q, e1, e2⟩ := Option.bind_eq_some_iff.mp e
  split at e1
  · rename_i hd
    cases e1
    unfold Mr.mulO at e2
    split at e2
    · rename_i hm
      simp at e2
      exact ⟨dv_ok hd, sm_ok hm, e2.symm⟩
    · cases e2
  · cases e1
theorem mulO_ok {i j r : Int} (e : Mr.mulO i j = some r) : mulOk i j ∧ r = i * j := by
  unfold Mr.mulO at e
  split at e
  · rename_i hm
    simp at e
    exact ⟨sm_ok hm, e.symm⟩
  · cases e
theorem fdivO_ok {i j r : Int} (e : Mr.fdivO i j = some r) : divOk i j ∧ r = i.fdiv j := by
  unfold Mr.fdivO at e
  split at e
  · rename_i hm
    simp at e
    exact ⟨dv_ok hm, e.symm⟩
  · cases e
theorem scaledO_len : ∀ {s : List Mr.Pt} {b : Int} {r : List Mr.Pr}, Mr.scaledO s b = some r → r.length = s.length
  | [], _, _, e => by cases e; rfl
  | p :: s, b, r, e => by
    unfold Mr.scaledO at e
    simp only [Option.bind_eq_some_iff] at e
    obtain ⟨_, _, _, _, _, _, _, _, r', e5, e6⟩ := e
    cases e6
    simp [scaledO_len e5]
/-- one point over a bottom -/
def scaled1 (b : Int) (p : Mr.Pt) : Mr.Pr := (p.1.1 * b.fdiv p.1.2, p.2.1 * b.fdiv p.2.2)
theorem scaledO_map : ∀ {s : List Mr.Pt} {b : Int} {r : List Mr.Pr}, Mr.scaledO s b = some r → r = s.map (scaled1 b) ∧ ∀ p ∈ s, divOk b p.1.2 ∧ divOk b p.2.2 ∧ mulOk p.1.1 (b.fdiv p.1.2) ∧ mulOk p.2.1 (b.fdiv p.2.2)
  | [], _, _, e => by cases e; exact ⟨rfl, fun p hp => by simp at hp⟩
  | p :: s, b, r, e => by
    unfold Mr.scaledO at e
    simp only [Option.bind_eq_some_iff] at e
    obtain ⟨_, e1, _, e2, _, e3, _, e4, r', e5, e6⟩ := e
    cases e6
    obtain ⟨rfl, ih⟩ := scaledO_map e5
    obtain ⟨d1, rfl⟩ := fdivO_ok e1
    obtain ⟨d2, rfl⟩ := mulO_ok e2
    obtain ⟨d3, rfl⟩ := fdivO_ok e3
    obtain ⟨d4, rfl⟩ := mulO_ok e4
    refine ⟨rfl, fun q hq => ?_⟩
    rcases List.mem_cons.mp hq with rfl | hq
    · exact ⟨d1, d3, d2, d4⟩
    · exact ih q hq
@[simp] theorem pures_fr {l : List (Int × Int)} : Va.pures (l.map fr) = true := pures_map (fun _ => rfl) l
@[simp] theorem pures_pt {l : List Mr.Pt} : Va.pures (l.map pt) = true := pures_map (fun _ => rfl) l
theorem unscaledO_map : ∀ {s : List Mr.Pr} {b : Int} {r : List Mr.Pt}, Mr.unscaledO s b = some r → ∃ f : Mr.Pr → Mr.Pt, r = s.map f ∧ ∀ p ∈ s, Mr.frO p.1 b = some (f p).1 ∧ Mr.frO p.2 b = some (f p).2 := fun {s b r} e => by
  refine ⟨fun p => ((Mr.frO p.1 b).getD (0, 1), (Mr.frO p.2 b).getD (0, 1)), ?_⟩
  induction s generalizing r with
  | nil => cases e; exact ⟨rfl, fun p hp => by simp at hp⟩
  | cons p s ih =>
    unfold Mr.unscaledO at e
    simp only [Option.bind_eq_some_iff] at e
    obtain ⟨x, e1, y, e2, r', e3, e4⟩ := e
    cases e4
    obtain ⟨rfl, ih⟩ := ih e3
    refine ⟨by simp [e1, e2], fun q hq => ?_⟩
    rcases List.mem_cons.mp hq with rfl | hq
    · simp [e1, e2]
    · exact ih q hq
end Vy
set_option maxHeartbeats 4000000
namespace Vy
open PySem
def turnI (a b c : Int × Int) : Int := (b.1 - a.1) * (c.2 - a.2) - (b.2 - a.2) * (c.1 - a.1)
theorem turnO_ok {a b c : Mr.Pr} {r : Int} (e : Mr.turnO a b c = some r) : mulOk (b.1 - a.1) (c.2 - a.2) ∧ mulOk (b.2 - a.2) (c.1 - a.1) ∧ r = turnI a b c := by
  unfold Mr.turnO at e
  simp only [fI_eq] at e
  split at e
  · rename_i hs
    simp only [Bool.and_eq_true] at hs
    cases e
    exact ⟨sm_ok hs.1, sm_ok hs.2, rfl⟩
  · cases e
theorem popO_len {p : Mr.Pr} : ∀ {f r : List Mr.Pr}, Mr.popO p f = some r → r.length ≤ f.length
  | [], r, e => by unfold Mr.popO at e; cases e; simp
  | [b], r, e => by unfold Mr.popO at e; cases e; simp
  | b :: a :: f, r, e => by
    unfold Mr.popO at e
    split at e
    · cases e; simp
    · have := popO_len e; simp at this ⊢; omega
    · cases e
theorem halfL_len : ∀ {s f r : List Mr.Pr}, Mr.halfL s f = some r → r.length ≤ s.length + f.length
  | [], f, r, e => by cases e; simp
  | p :: s, f, r, e => by
    unfold Mr.halfL at e
    obtain ⟨f1, e1, e⟩ := Option.bind_eq_some_iff.mp e
    have h1 := popO_len e1
    have h2 := halfL_len e
    simp at h2 ⊢
    omega
theorem memP_eq (p : Mr.Pr) : ∀ l : List Mr.Pr, Mr.memP p l = decide (p ∈ l)
  | [] => by simp [Mr.memP]
  | q :: l => by
    unfold Mr.memP
    rw [eqI_eq, eqI_eq, memP_eq p l]
    by_cases h : p = q
    · subst h; simp
    · have : ¬ (p.1 = q.1 ∧ p.2 = q.2) := fun z => h (Prod.ext z.1 z.2)
      by_cases h1 : p.1 = q.1
      · have h2 : ¬ p.2 = q.2 := fun z => this ⟨h1, z⟩
        simp [h2, h]
      · simp [h1, h]
theorem ltPr_eq (p q : Mr.Pr) : Mr.ltPr p q = ltPr p q := by
  unfold Mr.ltPr ltPr
  rw [ltI_eq, eqI_eq, ltI_eq]
  by_cases h1 : p.1 < q.1
  · simp [h1]
  · by_cases h2 : p.1 = q.1
    · simp [h2]
    · simp [h1, h2]
theorem insP_eq (a : Mr.Pr) : ∀ l, Mr.insP a l = insP a l
  | [] => rfl
  | b :: l => by
    unfold Mr.insP insP
    rw [ltPr_eq, insP_eq a l]
    cases ltPr b a <;> simp
theorem sortP_eq : ∀ l, Mr.sortP l = sortP l
  | [] => rfl
  | a :: l => by
    unfold Mr.sortP sortP
    rw [sortP_eq l, insP_eq]
theorem sdL_dedup (g : List (Nat × Ce)) {i : Nat} (key : Sg → Hm → Res Va) (σ : Sg) (h : Hm) (hg : heldOk g h) (hk : ∀ p : Mr.Pr, key (σ.set i (some (fr p))) h = .ok (fr p) h) : ∀ (s acc : List Mr.Pr), s.length + acc.length ≤ sizeLine →
    sdL g (.nm i) key σ (s.map fr) acc h = .ok (Mr.dedup s acc) h
  | [], acc, _ => by simp [sdL, hg, Mr.dedup]
  | p :: s, acc, hl => by
    have hp : pairV (fr p) = some p := rfl
    have hl2 : acc.length < sizeLine := by simp at hl; omega
    rw [List.map_cons]
    unfold sdL Mr.dedup
    simp only [if_pos hg, st_nm, hk, bind_ok, hp, if_pos hl2, memP_eq]
    by_cases hm : p ∈ acc
    · simp only [hm, if_true, decide_true]
      exact sdL_dedup g key σ h hg hk s acc (by simp at hl ⊢; omega)
    · simp only [hm, if_false, decide_false]
      exact sdL_dedup g key σ h hg hk s (acc ++ [p]) (by simp at hl ⊢; omega)
theorem dedup_len : ∀ (s acc : List Mr.Pr), (Mr.dedup s acc).length ≤ s.length + acc.length
  | [], acc => by simp [Mr.dedup]
  | p :: s, acc => by
    unfold Mr.dedup
    split
    · have := dedup_len s acc; simp; omega
    · have := dedup_len s (acc ++ [p]); simp at this ⊢; omega
theorem pairs_fr (l : List (Int × Int)) : l.map pairVa = l.map fr := rfl
theorem fL_eq {α β : Type} : ∀ (l : List α) (k : List α → β), Mr.fL l k = k l
  | [], k => rfl
  | a :: l, k => fL_eq l fun l => k (a :: l)
theorem step_rev {h : Hm} {n : Nat} {ws : List Va} (e : seqAt h n = some ws) : stepV none none (-1) (.ref n) h = newL h ws.reverse := by
  simp [stepV, e]
theorem slc_ref {h : Hm} {n : Nat} {ws : List Va} {lo hi : Option Int} (e : seqAt h n = some ws) : slcV lo hi (.ref n) h = .ok (.ref h.length) (h ++ [.lst (cutL ws lo hi)]) := by
  simp [slcV, e]
theorem items_ref {h : Hm} {n : Nat} {ws : List Va} (e : seqAt h n = some ws) : itemsV h (.ref n) = some ws := e
theorem seqAt_at {h : Hm} {n : Nat} {ws : List Va} (e : h[n]? = some (.lst ws)) : seqAt h n = some ws := by simp [seqAt, e]
theorem seqAt_app {h t : Hm} {n : Nat} {ws : List Va} (e : seqAt h n = some ws) : seqAt (h ++ t) n = some ws := by
  unfold seqAt at e ⊢
  cases hn : h[n]? with
  | none => rw [hn] at e; cases e
  | some c =>
    rw [List.getElem?_append_left (List.getElem?_eq_some_iff.mp hn).1, hn]
    rw [hn] at e
    exact e
theorem rev_cut (l : List Mr.Pr) : (l.reverse.map fr).dropLast = ((l.drop 1).reverse).map fr := by
  cases l <;> simp
end Vy
set_option maxHeartbeats 4000000
namespace Vy
open PySem
theorem hullO_ok {s r : List Mr.Pt} (e : Mr.hullO s = some r) : s.length ≤ 1000 ∧ ∃ b q u, Mr.oneBottomO s = some b ∧ Mr.scaledO s b = some q ∧ Mr.pairsHullO q = some u ∧ u.length ≤ 4000 ∧ Mr.unscaledO u b = some r := by
  unfold Mr.hullO at e
  split at e
  · rename_i hl
    simp only [Option.bind_eq_some_iff] at e
    obtain ⟨b, e1, q, e2, u, e3, e⟩ := e
    split at e
    · rename_i hm
      exact ⟨Nat.ble_eq.mp hl, b, q, u, e1, e2, e3, Nat.ble_eq.mp hm, e⟩
    · cases e
  · cases e
theorem eqSh_eq : ∀ a b : List Mr.Pt, Mr.eqSh a b = decide (a = b)
  | [], [] => rfl
  | [], _ :: _ => rfl
  | _ :: _, [] => rfl
  | a :: l, b :: m => by
    unfold Mr.eqSh Mr.eqPt Mr.eqFr
    simp only [eqI_eq, eqSh_eq l m]
    rw [Bool.eq_iff_iff]
    simp [Prod.ext_iff, and_assoc]
theorem okShape_ok {s : List Mr.Pt} (e : Mr.okShape s = true) : s.length ≤ 1000 ∧ Mr.isShapeO s = some true := by
  unfold Mr.okShape at e
  rw [Bool.and_eq_true, Nat.ble_eq] at e
  refine ⟨e.1, ?_⟩
  have := e.2
  split at this
  · assumption
  · cases this
theorem crossFr_ok {q x y r : Mr.Fr} (e : Mr.crossFr q x y = some r) : ∃ d t, Mr.lessO y x = some d ∧ Mr.timesO q d = some t ∧ Mr.plusO x t = some r := by
  unfold Mr.crossFr at e
  simp only [Option.bind_eq_some_iff] at e
  obtain ⟨x, e1, y, e2, e3⟩ := e
  exact ⟨_, _, e1, e2, e3⟩
end Vy
set_option maxHeartbeats 4000000
namespace Vy
open PySem
theorem restsO_map {a b high : Mr.Fr} : ∀ {s : List Mr.Pt} {rs : List Mr.Fr}, Mr.restsO a b high s = some rs → ∃ f : Mr.Pt → Mr.Fr, rs = s.map f ∧ ∀ p ∈ s, ∃ w, Mr.worthO p a b = some w ∧ Mr.lessO w high = some (f p) := fun {s rs} e => by
  refine ⟨fun p => ((Mr.worthO p a b).bind fun w => Mr.lessO w high).getD (0, 1), ?_⟩
  induction s generalizing rs with
  | nil => cases e; exact ⟨rfl, fun p hp => by simp at hp⟩
  | cons p s ih =>
    unfold Mr.restsO at e
    simp only [Option.bind_eq_some_iff] at e
    obtain ⟨w, e1, r, e2, r', e3, e4⟩ := e
    cases e4
    obtain ⟨rfl, ih⟩ := ih e3
    refine ⟨by simp [e1, e2], fun q hq => ?_⟩
    rcases List.mem_cons.mp hq with rfl | hq
    · exact ⟨w, e1, by simp [e1, e2]⟩
    · exact ih q hq
theorem set_end {h : Hm} {c d : Ce} : (h ++ [c]).set h.length d = h ++ [d] := by simp
theorem app_end {h : Hm} {ws : List Va} {w : Va} (hl : ws.length < sizeLine) : meV .append (.ref h.length) [w] (h ++ [.lst ws]) = .ok .non (h ++ [.lst (ws ++ [w])]) := by
  simp [meV, hl]
theorem rec_end {h : Hm} {ws : List Va} : recOk .append (.ref h.length) (h ++ [.lst ws]) = true := by
  simp [recOk, Me.ofStr]
theorem ext_end {h : Hm} {ws us : List Va} {m : Nat} (hm : m ≠ h.length) (e : (h ++ [Ce.lst ws])[m]? = some (.lst us)) (hl : ws.length + us.length ≤ sizeLine) : meV .extend (.ref h.length) [.ref m] (h ++ [.lst ws]) = .ok .non (h ++ [.lst (ws ++ us)]) := by
  simp only [meV, at_end, e]
  rw [if_pos ⟨hl, fun z => hm z.symm⟩, set_end]
theorem ix_rest {h t : Hm} {rs : List Mr.Fr} {i : Int} {r : Mr.Fr} (e : atI rs i = some r) : idxV (.ref h.length) (.int i) (h ++ [Ce.lst (rs.map fr)] ++ t) = .ok (fr r) (h ++ [Ce.lst (rs.map fr)] ++ t) := ix_ref (seqAt_app seqAt_end) (atI_map e)
theorem getElem_at {α : Type} (pre : List α) (x : α) (suf : List α) : atI (pre ++ x :: suf) (pre.length : Int) = some x := atI_nat (by simp)
theorem restsO_len {a b high : Mr.Fr} {s : List Mr.Pt} {rs : List Mr.Fr} (e : Mr.restsO a b high s = some rs) : rs.length = s.length := by
  obtain ⟨f, rfl, _⟩ := restsO_map e
  simp
end Vy
set_option maxHeartbeats 4000000
namespace Vy
open PySem
/-- a number that as_fraction reads: an int, or a fraction -/
inductive Nb where
  | int (i : Int)
  | fr (x : Mr.Fr)
def Nb.va : Nb → Va
  | .int i => .int i
  | .fr x => Vy.fr x
def Nb.val : Nb → Mr.Fr
  | .int i => (i, 1)
  | .fr x => x
@[simp] theorem nb_isnot {h : Hm} {n : Nb} : cmpP h .isnot n.va .non = some true := by cases n <;> rfl
@[simp] theorem nb_is {h : Hm} {n : Nb} : cmpP h .is n.va .non = some false := by cases n <;> rfl
/-- a bound: a number, or None -/
def bd : Option Nb → Va
  | none => .non
  | some n => n.va
theorem hullO_len {s r : List Mr.Pt} (e : Mr.hullO s = some r) : r.length ≤ 4000 := by
  obtain ⟨_, b, q, u, _, _, _, hu, e4⟩ := hullO_ok e
  obtain ⟨f, rfl, _⟩ := unscaledO_map e4
  simpa using hu
def hp (x : Mr.Hp) : Va := .tup [fr x.a, fr x.b, fr x.high]
theorem pures_hp {l : List Mr.Hp} : Va.pures (l.map hp) = true := pures_map (fun _ => rfl) l
theorem rightsO_len : ∀ {q : Mr.Pt} {s : List Mr.Pt} {r : List Mr.Hp}, Mr.rightsO q s = some r → r.length = s.length
  | q, [], r, e => by cases e; rfl
  | q, p :: s, r, e => by
    unfold Mr.rightsO at e
    simp only [Option.bind_eq_some_iff] at e
    obtain ⟨x, e1, t, e2, e3⟩ := e
    cases e3
    simp [rightsO_len e2]
theorem rightsO_at : ∀ {q : Mr.Pt} {s : List Mr.Pt} {r : List Mr.Hp}, Mr.rightsO q s = some r → ∀ (k : Nat) (p : Mr.Pt), s[k]? = some p → ∃ x, r[k]? = some x ∧ Mr.rightOfO ((q :: s)[k]?.getD q) p = some x
  | q, [], r, e, k, p, hk => by simp at hk
  | q, p :: s, r, e, k, p', hk => by
    unfold Mr.rightsO at e
    simp only [Option.bind_eq_some_iff] at e
    obtain ⟨x, e1, t, e2, e3⟩ := e
    cases e3
    cases k with
    | zero => simp at hk; subst hk; exact ⟨x, rfl, e1⟩
    | succ k =>
      obtain ⟨y, h1, h2⟩ := rightsO_at e2 k p' (by simpa using hk)
      refine ⟨y, by simpa using h1, ?_⟩
      have : ((p :: s)[k]?.getD p) = ((q :: p :: s)[k + 1]?.getD q) := by
        rw [List.getElem?_cons_succ]
        cases hs : (p :: s)[k]? with
        | some z => rfl
        | none =>
          have h3 := List.getElem?_eq_none_iff.mp hs
          have h4 := (List.getElem?_eq_some_iff.mp hk).1
          simp at h3 h4
          omega
      rw [← this]
      exact h2
theorem map_zipIdx {α β γ : Type} (s : List α) (r : List β) (f : β → γ) (d : γ) (hl : r.length = s.length) : r.map f = (s.zipIdx 0).map fun z => (r[z.2]?.map f).getD d := by
  apply List.ext_getElem
  · simp [hl]
  · intro k h1 h2
    have hk : k < r.length := by simpa using h1
    rw [List.getElem_map, List.getElem_map, List.getElem_zipIdx]
    simp [hk]
theorem keptsB_ok {x : Mr.Hp} {hs : List Mr.Hp} {s r : List Mr.Pt} (e : Mr.keptsB (x :: hs) s = some r) : ∃ t, Mr.keptO s x.a x.b x.high = some t ∧ t.length ≤ 1000 ∧ Mr.keptsB hs t = some r := by
  unfold Mr.keptsB at e
  obtain ⟨t, e1, e2⟩ := Option.bind_eq_some_iff.mp e
  split at e2
  · rename_i hb
    exact ⟨t, e1, by simpa using hb, e2⟩
  · cases e2
end Vy
set_option maxHeartbeats 4000000
namespace Vy
open PySem
theorem sidesO_map {p : Mr.Pt} : ∀ {hs : List Mr.Hp} {r : List Int}, Mr.sidesO p hs = some r → ∃ f : Mr.Hp → Int, r = hs.map f ∧ ∀ x ∈ hs, ∃ w, Mr.worthO p x.a x.b = some w ∧ Mr.comparedO x.high w = some (f x) := fun {hs r} e => by
  refine ⟨fun x => ((Mr.worthO p x.a x.b).bind fun w => Mr.comparedO x.high w).getD 0, ?_⟩
  induction hs generalizing r with
  | nil => cases e; exact ⟨rfl, fun p hp => by simp at hp⟩
  | cons x s ih =>
    unfold Mr.sidesO at e
    simp only [Option.bind_eq_some_iff] at e
    obtain ⟨w, e1, c, e2, r', e3, e4⟩ := e
    cases e4
    obtain ⟨rfl, ih⟩ := ih e3
    refine ⟨by simp [e1, e2], fun q hq => ?_⟩
    rcases List.mem_cons.mp hq with rfl | hq
    · exact ⟨w, e1, by simp [e1, e2]⟩
    · exact ih q hq
theorem minF_eq : ∀ (l : List Int) (a : Int), Mr.minF l a = l.foldl (fun a b => if b < a then b else a) a
  | [], _ => rfl
  | b :: l, a => by
    unfold Mr.minF
    rw [ltI_eq, List.foldl_cons]
    by_cases h : b < a
    · simp [h, minF_eq l b]
    · simp [h, minF_eq l a]
theorem min_ref {h : Hm} {n : Nat} {l : List Int} (e : seqAt h n = some (l.map .int)) (hl : l ≠ []) : biV .min [.ref n] h = .ok (.int (Mr.minI l)) h := by
  have hi := intsV_map (fun i : Int => i) l
  rw [List.map_id'] at hi
  cases l with
  | nil => exact absurd rfl hl
  | cons a l =>
    show (match (seqAt h n).bind intsV with
      | some (i :: l) => Res.ok (Va.int (l.foldl (fun a b => if b < a then b else a) i)) h
      | _ => .bad) = _
    rw [e, Option.bind_some, hi]
    simp only [Mr.minI, minF_eq]
theorem halfPlanesO_ne {s : List Mr.Pt} {r : List Mr.Hp} (e : Mr.halfPlanesO s = some r) : r ≠ [] := by
  unfold Mr.halfPlanesO at e
  split at e
  · cases e
  · cases e; simp
  · simp only [Option.bind_eq_some_iff] at e
    obtain ⟨a, e1, b, e2, c, e3, d, e4, e5⟩ := e
    cases e5; simp
  · have := rightsO_len e
    intro z
    rw [z] at this
    simp at this
theorem halfPlanesO_len {s : List Mr.Pt} {r : List Mr.Hp} (e : Mr.halfPlanesO s = some r) : r.length ≤ s.length + 4 := by
  unfold Mr.halfPlanesO at e
  split at e
  · cases e
  · cases e; simp
  · simp only [Option.bind_eq_some_iff] at e
    obtain ⟨a, e1, b, e2, c, e3, d, e4, e5⟩ := e
    cases e5; simp
  · have := rightsO_len e
    omega
end Vy
set_option maxHeartbeats 4000000
namespace Vy
open PySem
theorem shearedL_map {b : Int} : ∀ {s r : List Mr.Pt}, Mr.shearedL b s = some r → ∃ f : Mr.Pt → Mr.Pt, r = s.map f ∧ ∀ p ∈ s, ∃ t, Mr.timesO (b, 1) p.2 = some t ∧ Mr.plusO p.1 t = some (f p).1 ∧ (f p).2 = p.2 := fun {s r} e => by
  refine ⟨fun p => (((Mr.timesO (b, 1) p.2).bind fun t => Mr.plusO p.1 t).getD (0, 1), p.2), ?_⟩
  induction s generalizing r with
  | nil => cases e; exact ⟨rfl, fun p hp => by simp at hp⟩
  | cons p s ih =>
    unfold Mr.shearedL at e
    simp only [Option.bind_eq_some_iff] at e
    obtain ⟨w, e1, c, e2, r', e3, e4⟩ := e
    cases e4
    obtain ⟨rfl, ih⟩ := ih e3
    refine ⟨by simp [e1, e2], fun q hq => ?_⟩
    rcases List.mem_cons.mp hq with rfl | hq
    · exact ⟨w, e1, by simp [e1, e2], rfl⟩
    · exact ih q hq
theorem stretchedL_len {lo hi : Mr.Fr} : ∀ {s t : List Mr.Pt}, Mr.stretchedL lo hi s = some t → t.length = 2 * s.length
  | [], t, e => by cases e; rfl
  | p :: s, t, e => by
    unfold Mr.stretchedL at e
    simp only [Option.bind_eq_some_iff] at e
    obtain ⟨x, e1, y, e2, t', e3, e4⟩ := e
    cases e4
    simp [stretchedL_len e3]
    omega
def en (x : Mr.Fr × Mr.Pt) : Va := .tup [fr x.1, pt x.2]
theorem pures_en {l : List (Mr.Fr × Mr.Pt)} : Va.pures (l.map en) = true := pures_map (fun _ => rfl) l
theorem formsO_map {p q : Int} : ∀ {s : List Mr.Pt} {r : List (Mr.Fr × Mr.Pt)}, Mr.formsO p q s = some r → ∃ f : Mr.Pt → Mr.Fr, r = s.map (fun x => (f x, x)) ∧ ∀ x ∈ s, Mr.formO x p q = some (f x) := fun {s r} e => by
  refine ⟨fun x => (Mr.formO x p q).getD (0, 1), ?_⟩
  induction s generalizing r with
  | nil => cases e; exact ⟨rfl, fun p hp => by simp at hp⟩
  | cons x s ih =>
    unfold Mr.formsO at e
    simp only [Option.bind_eq_some_iff] at e
    obtain ⟨w, e1, r', e3, e4⟩ := e
    cases e4
    obtain ⟨rfl, ih⟩ := ih e3
    refine ⟨by simp [e1], fun y hy => ?_⟩
    rcases List.mem_cons.mp hy with rfl | hy
    · simp [e1]
    · exact ih y hy
theorem ix_en0 {x : Mr.Fr × Mr.Pt} {h : Hm} : idxV (en x) (.int 0) h = .ok (fr x.1) h := ix_0
theorem areaL_at : ∀ {a : Mr.Pr} {s : List Mr.Pr} {r : List Int}, Mr.areaL a s = some r → r.length = s.length ∧ ∀ (k : Nat) (p : Mr.Pr), s[k]? = some p → ∃ b : Mr.Pr, (a :: s)[k]? = some b ∧ mulOk b.1 p.2 ∧ mulOk p.1 b.2 ∧ r[k]? = some (b.1 * p.2 - p.1 * b.2)
  | a, [], r, e => by cases e; exact ⟨rfl, fun k p hk => by simp at hk⟩
  | a, b :: s, r, e => by
    unfold Mr.areaL at e
    simp only [Option.bind_eq_some_iff, fI_eq] at e
    obtain ⟨x, e1, y, e2, t, e3, e4⟩ := e
    cases e4
    obtain ⟨m1, rfl⟩ := mulO_ok e1
    obtain ⟨m2, rfl⟩ := mulO_ok e2
    obtain ⟨hl, st⟩ := areaL_at e3
    refine ⟨by simp [hl], fun k p hk => ?_⟩
    cases k with
    | zero => simp at hk; subst hk; exact ⟨a, rfl, m1, m2, rfl⟩
    | succ k =>
      obtain ⟨c, h1, h2, h3, h4⟩ := st k p (by simpa using hk)
      exact ⟨c, by simpa using h1, h2, h3, by simpa using h4⟩
theorem sumI_eq : ∀ l : List Int, Mr.sumI l = l.sum
  | [] => rfl
  | a :: l => by
    unfold Mr.sumI
    rw [sumI_eq l, List.sum_cons]
    rfl
theorem sum_end {h : Hm} {l : List Int} : biV .sum [.ref h.length] (h ++ [.lst (l.map .int)]) = .ok (.int l.sum) (h ++ [.lst (l.map .int)]) := by
  have hi := intsV_map (fun i : Int => i) l
  rw [List.map_id'] at hi
  show ofO _ (((seqAt _ _).bind intsV).map fun l => .int l.sum) = _
  rw [seqAt_end, Option.bind_some, hi]
  rfl
@[simp] theorem srcK_ref {h : Hm} {n : Nat} {ws : List Va} (e : h[n]? = some (.lst ws)) : srcK h (.ref n) = some ⟨ws, [(n, .lst ws)]⟩ := by simp [srcK, e]
end Vy
set_option maxHeartbeats 4000000
namespace Vy
open PySem
/-- an int or None -/
def oi : Option Int → Va
  | none => .non
  | some i => .int i
theorem oi_bd (o : Option Int) : oi o = bd (o.map Nb.int) := by cases o <;> rfl
end Vy
set_option maxHeartbeats 4000000
namespace Vy
open PySem
theorem ofString_eq (s : String) : Str.ofString s = ⟨(s.toList.map Char.toNat).toArray⟩ := Str.ofString_eq_toList s
theorem ofString_app (a b : String) : Str.ofString a ++ Str.ofString b = Str.ofString (a ++ b) := by
  rw [ofString_eq, ofString_eq, ofString_eq, String.toList_append, List.map_append]
  show Str.append _ _ = _
  simp [Str.append]
theorem neg_text (n : Nat) : Str.ofString "-" ++ Str.ofString (toString (((n + 1 : Nat)) : Int)) = Str.ofString (toString (Int.negSucc n)) := by
  rw [ofString_app]
  rfl
theorem pow_10_60 {h : Hm} : binV .pow (.int 10) (.int 60) h = .ok (.int (10 ^ 60)) h := by
  show (if 0 ≤ (60 : Int) ∧ (Builtin.Int.intBits 10 : Int) * 60 ≤ 2 ^ 27 then Res.ok (Va.int (10 ^ (60 : Int).toNat)) h else .bad) = _
  rw [if_pos (by decide +kernel)]
  rfl
theorem pow_10_900 {h : Hm} : binV .pow (.int (10 ^ 60)) (.int 15) h = .ok (.int ((10 ^ 60) ^ 15)) h := by
  show (if 0 ≤ (15 : Int) ∧ (Builtin.Int.intBits (10 ^ 60) : Int) * 15 ≤ 2 ^ 27 then Res.ok (Va.int ((10 ^ 60) ^ (15 : Int).toNat)) h else .bad) = _
  rw [if_pos (by decide +kernel)]
  rfl
/-- the text of an int -/
def tx (i : Int) : Str := Str.ofString (toString i)
theorem neg_tx (n : Nat) : Str.ofString "-" ++ tx ((n + 1 : Nat) : Int) = tx (Int.negSucc n) := neg_text n
theorem str_int {h : Hm} {i : Int} (hi : i.natAbs.log2 < 1920) : biV .str [.int i] h = .ok (.str (tx i)) h := if_pos hi
theorem small_nat {n : Nat} (hi : n.log2 < 1920) : n < 10 ^ 900 := by
  have h1 : n < 2 ^ 1920 := by
    by_cases h0 : n = 0
    · rw [h0]; exact Nat.pow_pos (by decide)
    · exact (Nat.log2_lt h0).mp hi
  have h2 : (2 : Nat) ^ 1920 ≤ 10 ^ 900 := by decide +kernel
  exact Nat.lt_of_lt_of_le h1 h2
theorem small_text {i : Int} (hi : i.natAbs.log2 < 1920) : ¬ ((10 : Int) ^ 60) ^ 15 ≤ (i.natAbs : Int) := by
  intro z
  have h1 := small_nat hi
  have h2 : ((10 : Int) ^ 60) ^ 15 = ((10 ^ 900 : Nat) : Int) := by decide +kernel
  rw [h2] at z
  have := Int.ofNat_le.mp z
  omega
theorem join_end {h : Hm} {s : Str} {l : List Str} (hl : (l.map fun x : Str => x.length).sum + l.length * s.length ≤ sizeLine) : meV .join (.str s) [.ref h.length] (h ++ [.lst (l.map .str)]) = .ok (.str (Txt.join s l)) (h ++ [.lst (l.map .str)]) := by
  have hi := strsV_map (fun i : Str => i) l
  rw [List.map_id'] at hi
  simp only [meV, seqAt_end, Option.bind_some, hi]
  rw [if_pos hl]
theorem num_len {n : Nat} (hi : n.log2 < 1920) : (tx ((n : Nat) : Int)).length ≤ 900 := by
  have h : TL.tl (tx ((n : Nat) : Int)) = TL.numL n := TL.tl_num n
  rw [TL.len_tl, h]
  exact TL.numL_len (by decide) (small_nat hi)
theorem join_one (s x : Str) : Txt.join s [x] = x := rfl
def frText (x : Mr.Fr) : Str := if x.2 = 1 then tx x.1 else tx x.1 ++ Str.ofString "/" ++ tx x.2
theorem addV_str {h : Hm} {a b : Str} (hl : a.length + b.length ≤ sizeLine) : binV .add (.str a) (.str b) h = .ok (.str (a ++ b)) h := if_pos hl
theorem int_len {i : Int} (hi : i.natAbs.log2 < 1920) : (tx i).length ≤ 901 := by
  cases i with
  | ofNat n => have := num_len hi; exact Nat.le_trans this (by decide)
  | negSucc n =>
    rw [← neg_tx]
    have := num_len hi
    have h1 : (Str.ofString "-").length = 1 := by decide +kernel
    have h2 : ∀ a b : Str, (a ++ b).length = a.length + b.length := fun a b => by
      show (a.cps ++ b.cps).size = _
      simp [Str.length]
    rw [h2, h1]
    have : (tx ((n + 1 : Nat) : Int)).length ≤ 900 := this
    omega
theorem str_app_len (a b : Str) : (a ++ b).length = a.length + b.length := by
  show (a.cps ++ b.cps).size = _
  simp [Str.length]
end Vy
set_option maxHeartbeats 4000000
namespace Vy
open PySem
theorem mul_lt {i j : Int} (h1 : i.natAbs < 2 ^ 1100) (h2 : j.natAbs < 2 ^ 1100) : mulOk i j := by
  have e : ∀ k : Nat, k < 2 ^ 1100 → k.log2 < 1100 := fun k hk => by
    by_cases h : k = 0
    · rw [h]; decide
    · exact (Nat.log2_lt h).mpr hk
  have a := e _ h1
  have b := e _ h2
  show _ < _
  omega
theorem nat_lt64 {i : Int} (h0 : 0 ≤ i) (h1 : i < 2 ^ 90) : i.natAbs < 2 ^ 1100 := by
  have h2 : i.natAbs < 2 ^ 90 := by omega
  exact Nat.lt_of_lt_of_le h2 (Nat.pow_le_pow_right (by decide) (by decide))
theorem mul_64 {i j : Int} (h0 : 0 ≤ i) (h1 : i < 2 ^ 90) (g0 : 0 ≤ j) (g1 : j < 2 ^ 90) : mulOk i j := mul_lt (nat_lt64 h0 h1) (nat_lt64 g0 g1)
theorem div_64 {i j : Int} (g0 : 0 < j) (g1 : j < 2 ^ 90) : divOk i j := by
  refine ⟨by omega, ?_⟩
  have h2 : j.natAbs < 2 ^ 90 := by omega
  have := (Nat.log2_lt (n := j.natAbs) (k := 90) (by omega)).mpr h2
  omega
theorem prod_lt {i j a b : Int} (h0 : 0 ≤ i) (h1 : i ≤ a) (g0 : 0 ≤ j) (g1 : j ≤ b) : 0 ≤ i * j ∧ i * j ≤ a * b := ⟨Int.mul_nonneg h0 g0, Int.mul_le_mul h1 g1 g0 (Int.le_trans h0 h1)⟩
@[simp] theorem es_setIx {Γ : Ev} {o i e : Xp} {σ : Sg} {h : Hm} : eS Γ (.setIx o i e) σ h = (eX Γ e σ h).bind fun x h1 => (eX Γ o σ h1).bind fun a h2 => (eX Γ i σ h2).bind fun k h3 => match a, k with
    | .ref n, .int j => (match h3[n]? with
      | some (.lst ws) => (match L2.ixN ws.length j with
        | some q => .ok (.nx σ) (h3.set n (.lst (ws.set q x)))
        | none => .bad)
      | _ => .bad)
    | _, _ => .bad := by rw [eS] <;> rfl
@[simp] theorem bi_intint {h : Hm} {i : Int} : biV .int [.int i] h = .ok (.int i) h := rfl
/-- the pot at a place: digits left, a mixed number, how many were mixed -/
structure PotAt (h : Hm) (p n : Nat) (own sm k : Int) : Prop where
  at_ : h[p]? = some (.lst [.int own, .int sm, .int k])
  o0 : 0 ≤ own
  o1 : own < 10 ^ 300
  s0 : 0 ≤ sm
  s1 : sm < 2 ^ 62
  k0 : 0 ≤ k
  k1 : k ≤ n
theorem set_set {h : Hm} {p : Nat} {c d : Ce} : (h.set p c).set p d = h.set p d := by simp
theorem pow3 {h : Hm} {i : Int} (h0 : 0 ≤ i) (h1 : i < 2 ^ 90) : binV .pow (.int i) (.int 3) h = .ok (.int (i ^ 3)) h := by
  show (if 0 ≤ (3 : Int) ∧ (Builtin.Int.intBits i : Int) * 3 ≤ 2 ^ 27 then Res.ok (Va.int (i ^ (3 : Int).toNat)) h else .bad) = _
  rw [if_pos]
  · rfl
  · refine ⟨by decide, ?_⟩
    have h2 : i.natAbs < 2 ^ 90 := by omega
    have : Builtin.Int.intBits i ≤ 91 := by
      unfold Builtin.Int.intBits
      by_cases h : i.natAbs = 0
      · rw [h]
        simp
        split <;> omega
      · have := (Nat.log2_lt h).mpr h2
        split <;> omega
    omega
theorem fmod_lt {i j : Int} (h : 0 < j) : 0 ≤ i.fmod j ∧ i.fmod j < j := ⟨Int.fmod_nonneg_of_pos _ h, Int.fmod_lt_of_pos _ h⟩
theorem c_law_take {h : Hm} {p n : Nat} {own sm k up : Int} (P : PotAt h p n own sm k) (hn : n ≤ 1000000) (u0 : 0 < up) (u1 : up ≤ 1000000000) (l : Nat) :
    ∃ d own' k' : Int, 0 ≤ d ∧ d < up ∧ gcR h (CC (l + 1) (Str.ofString "_law_take") [.ref p, .int up] h) = .ok (.int d) (h.set p (.lst [.int own', .int sm, .int k'])) ∧ PotAt (h.set p (.lst [.int own', .int sm, .int k'])) p (n + 1) own' sm k' := by
  have hp : p < h.length := (List.getElem?_eq_some_iff.mp P.at_).1
  have sq : seqAt h p = some [.int own, .int sm, .int k] := seqAt_at P.at_
  have i0 : idxV (.ref p) (.int 0) h = .ok (.int own) h := ix_ref sq rfl
  have at' : ∀ a b c : Int, (h.set p (.lst [.int a, .int b, .int c]))[p]? = some (.lst [.int a, .int b, .int c]) := fun a b c => by simp [hp]
  have hk := P.k0
  have hk1 := P.k1
  rw [n__law_take]
  by_cases h0 : 0 < own
  · have d1 : divOk own up := div_64 u0 (by omega)
    refine ⟨own.fmod up, own.fdiv up, k, (fmod_lt u0).1, (fmod_lt u0).2, ?_, ⟨at' _ _ _, ?_, ?_, P.s0, P.s1, hk, by omega⟩⟩
    · have hne : up ≠ 0 := by omega
      have g1 := gcR_set (h := h) (t := []) (w := .int (own.fmod up)) (n := p) (ws := [.int (own.fdiv up), .int sm, .int k]) rfl rfl
      rw [List.append_nil] at g1
      simp [i__law_take, i0, h0, b_mod hne, b_fdiv d1, P.at_, L2.ixN, g1]
    · exact Int.fdiv_nonneg (by omega) (by omega)
    · have : own.fdiv up ≤ own := by
        rw [Int.fdiv_eq_ediv_of_nonneg _ (by omega)]
        exact Int.ediv_le_self _ (by omega)
      have := P.o1
      omega
  · have hw : own = 0 := by have := P.o0; omega
    have P' : h.set p (.lst [.int own, .int sm, .int (k + 1)]) = h.set p (.lst [.int own, .int sm, .int (k + 1)]) := rfl
    obtain ⟨t1, t2⟩ := prod_lt (i := 100559) (j := k + 1) (a := 100559) (b := 1000001) (by decide) (by decide) (by omega) (by omega)
    obtain ⟨t3, t4⟩ := prod_lt (i := 100559 * (k + 1)) (j := k + 1) (a := 100559 * 1000001) (b := 1000001) t1 t2 (by omega) (by omega)
    have hs0 := P.s0
    have hs1 := P.s1
    have m1 : mulOk 100559 (k + 1) := mul_64 (by decide) (by decide) (by omega) (by omega)
    have m2 : mulOk (100559 * (k + 1)) (k + 1) := mul_64 t1 (by omega) (by omega) (by omega)
    generalize hq : 100559 * (k + 1) * (k + 1) = q at t3 t4
    have b0 : 0 ≤ sm + q + 2003 := by omega
    have b1 : sm + q + 2003 < 2 ^ 90 := by omega
    obtain ⟨m, hm⟩ : ∃ m, (k + 1).fmod 5 = m := ⟨_, rfl⟩
    have hm0 : 0 ≤ m ∧ m < 5 := by rw [← hm]; exact fmod_lt (by decide)
    obtain ⟨pr, hpr, hp1, hp2⟩ : ∃ pr : Int, atI [Va.int 2147483647, .int 2147483629, .int 2147483587, .int 2147483579, .int 2147483563] m = some (.int pr) ∧ 0 < pr ∧ pr < 2 ^ 31 := by
      rcases (by omega : m = 0 ∨ m = 1 ∨ m = 2 ∨ m = 3 ∨ m = 4) with rfl | rfl | rfl | rfl | rfl
      · exact ⟨2147483647, rfl, by decide, by decide⟩
      · exact ⟨2147483629, rfl, by decide, by decide⟩
      · exact ⟨2147483587, rfl, by decide, by decide⟩
      · exact ⟨2147483579, rfl, by decide, by decide⟩
      · exact ⟨2147483563, rfl, by decide, by decide⟩
    obtain ⟨bl, hbl⟩ : ∃ bl, ((sm + q + 2003) ^ 3).fmod pr = bl := ⟨_, rfl⟩
    have hb0 : 0 ≤ bl ∧ bl < pr := by rw [← hbl]; exact fmod_lt hp1
    obtain ⟨v, hv⟩ : ∃ v, bl.fmod 10559 = v := ⟨_, rfl⟩
    have hv0 : 0 ≤ v ∧ v < 10559 := by rw [← hv]; exact fmod_lt (by decide)
    have m3 : mulOk 269 (k + 1) := mul_64 (by decide) (by decide) (by omega) (by omega)
    have m4 : mulOk bl (v + 269 * (k + 1)) := mul_64 hb0.1 (by omega) (by omega) (by omega)
    have d3 : ∀ i, divOk i 151 := fun i => div_64 (by decide) (by decide)
    have hne : up ≠ 0 := by omega
    have hpe : pr ≠ 0 := by omega
    refine ⟨((bl * (v + 269 * (k + 1))).fdiv 151).fmod up, own, k + 1, (fmod_lt u0).1, (fmod_lt u0).2, ?_, ⟨at' _ _ _, P.o0, P.o1, P.s0, P.s1, by omega, by omega⟩⟩
    have i2 : idxV (.ref p) (.int 2) h = .ok (.int k) h := ix_ref sq rfl
    generalize hH : h.set p (.lst [.int own, .int sm, .int (k + 1)]) = H
    have sqH : ∀ u, seqAt (H ++ u) p = some [.int own, .int sm, .int (k + 1)] := fun u => seqAt_app (by rw [← hH]; exact seqAt_at (at' _ _ _))
    have j1 : ∀ u, idxV (.ref p) (.int 1) (H ++ u) = .ok (.int sm) (H ++ u) := fun u => ix_ref (sqH u) rfl
    have j2 : ∀ u, idxV (.ref p) (.int 2) (H ++ u) = .ok (.int (k + 1)) (H ++ u) := fun u => ix_ref (sqH u) rfl
    have j3 : idxV (.ref H.length) (.int m) (H ++ [.lst [Va.int 2147483647, .int 2147483629, .int 2147483587, .int 2147483579, .int 2147483563]]) = .ok (.int pr) (H ++ [.lst [Va.int 2147483647, .int 2147483629, .int 2147483587, .int 2147483579, .int 2147483563]]) := ix_ref seqAt_end hpr
    have j2' := j2 []
    rw [List.append_nil] at j2'
    have st : eSs (GA l) i__law_take.body [some (.ref p), some (.int up), none, none, none] h = .ok (.rt (.int (((bl * (v + 269 * (k + 1))).fdiv 151).fmod up))) (H ++ [.lst [Va.int 2147483647, .int 2147483629, .int 2147483587, .int 2147483579, .int 2147483563]]) := by
      refine (seq_nx (σ1 := [some (.ref p), some (.int up), none, none, none]) (h1 := h) ?_).trans ((seq_nx (σ1 := [some (.ref p), some (.int up), none, none, none]) (h1 := H) ?_).trans ((seq_nx (σ1 := [some (.ref p), some (.int up), some (.int pr), none, none]) (h1 := H ++ [.lst [Va.int 2147483647, .int 2147483629, .int 2147483587, .int 2147483579, .int 2147483563]]) ?_).trans ((seq_nx (σ1 := [some (.ref p), some (.int up), some (.int pr), some (.int bl), none]) (h1 := H ++ [.lst [Va.int 2147483647, .int 2147483629, .int 2147483587, .int 2147483579, .int 2147483563]]) ?_).trans (seq_rt ?_))))
      · simp [i0, h0]
      · simp [i2, P.at_, L2.ixN, hH]
      · simp [newL, sizeLine, j2, b_mod (i := k + 1) (j := 5) (by decide), hm, j3]
      · simp [j1, j2, b_mul m1, b_mul m2, hq, pow3 b0 b1, b_mod hpe, hbl]
      · simp [j2, b_mod (i := bl) (j := 10559) (by decide), hv, b_mul m3, b_mul m4, b_fdiv (d3 _), b_mod hne]
    rw [st, ← hH]
    exact gcR_set rfl rfl
theorem c_law_pot {h : Hm} {ns : List Int} {pl : Int} (e : h[0]? = some (.frz (ns.map .int))) (h0 : 0 ≤ pl) (h1 : pl ≤ 1000) (hl : ns.length ≤ 1000) (l : Nat) :
    ∃ own sm : Int, gcR h (CC (l + 1) (Str.ofString "_law_pot") [.ref 0, .int pl] h) = .ok (.ref h.length) (h ++ [.lst [.int own, .int sm, .int 0]]) ∧ PotAt (h ++ [.lst [.int own, .int sm, .int 0]]) h.length 0 own sm 0 := by
  have sq : seqAt h 0 = some (ns.map .int) := by simp [seqAt, e]
  rw [n__law_pot]
  have cell : ∃ (c : Int) (J : Hm), eS (GA l) (.set (.nm 2) (.ife (.cmp .lt (.var 1) (.bi .len (.cons (.var 0) .nil))) (.idx (.var 0) (.var 1)) (.bin .add (.bin .add (.bin .mod (.bi .int (.cons (.bi .sum (.cons (.slc (.var 0) .none (.some (.cst (.int 1)))) .nil)) .nil)) (.cst (.int 1000003))) (.bin .mul (.cst (.int 2351)) (.var 1))) (.cst (.int 1699))))) [some (.ref 0), some (.int pl), none, none, none] h = .ok (.nx [some (.ref 0), some (.int pl), some (.int c), none, none]) (h ++ J) := by
    have le : biV .len [.ref 0] h = .ok (.int ns.length) h := by rw [len_ref sq, List.length_map]
    by_cases hlt : pl < ns.length
    · obtain ⟨k, rfl⟩ : ∃ k : Nat, pl = k := ⟨pl.toNat, by omega⟩
      have hk : k < ns.length := by omega
      refine ⟨ns[k], [], ?_⟩
      have ix : idxV (.ref 0) (.int (k : Int)) h = .ok (.int ns[k]) h := ix_ref sq (atI_nat (by simp [hk]))
      simp [le, hk, ix]
    · have cut : cutL (ns.map Va.int) none (some 1) = (ns.take 1).map Va.int := by
        cases ns with
        | nil => simp [cutL, HT.sIx]
        | cons a r =>
          simp [cutL, HT.sIx]
      have sm := sum_end (h := h) (l := ns.take 1)
      have m1 : mulOk 2351 pl := mul_64 (by decide) (by decide) h0 (by omega)
      refine ⟨((ns.take 1).sum).fmod 1000003 + 2351 * pl + 1699, [.lst ((ns.take 1).map .int)], ?_⟩
      simp [le, hlt, slc_ref sq, cut, b_mod (i := _) (j := 1000003) (by decide), b_mul m1] at sm ⊢
      simp [sm, b_mod (i := _) (j := 1000003) (by decide), b_mul m1]
  obtain ⟨c, J, e1⟩ := cell
  obtain ⟨w, hw⟩ : ∃ w, ((c.natAbs : Int)).fmod ((10 ^ 60) ^ 5) = w := ⟨_, rfl⟩
  have hw0 : 0 ≤ w ∧ w < (10 ^ 60) ^ 5 := by rw [← hw]; exact fmod_lt (by decide +kernel)
  have p5 : ∀ H : Hm, binV .pow (.int (10 ^ 60)) (.int 5) H = .ok (.int ((10 ^ 60) ^ 5)) H := fun H => by
    show (if 0 ≤ (5 : Int) ∧ (Builtin.Int.intBits (10 ^ 60) : Int) * 5 ≤ 2 ^ 27 then Res.ok (Va.int ((10 ^ 60) ^ (5 : Int).toNat)) H else .bad) = _
    rw [if_pos (by decide +kernel)]
    rfl
  have p18 : ∀ H : Hm, binV .pow (.int 10) (.int 18) H = .ok (.int (10 ^ 18)) H := fun H => by
    show (if 0 ≤ (18 : Int) ∧ (Builtin.Int.intBits 10 : Int) * 18 ≤ 2 ^ 27 then Res.ok (Va.int (10 ^ (18 : Int).toNat)) H else .bad) = _
    rw [if_pos (by decide +kernel)]
    rfl
  obtain ⟨f, hf⟩ : ∃ f : Bool, decide ((10 : Int) ^ 18 ≤ (c.natAbs : Int)) = f := ⟨_, rfl⟩
  have hbi : ∀ H : Hm, biV .int [.bl f] H = .ok (.int (if f then 1 else 0)) H := fun H => rfl
  have big : w.natAbs < 2 ^ 1100 := by
    have : (w.natAbs : Int) < ((10 ^ 60) ^ 5 : Nat) := by
      have h2 : (((10 ^ 60) ^ 5 : Nat) : Int) = ((10 : Int) ^ 60) ^ 5 := by decide +kernel
      rw [h2]
      omega
    have h3 := Int.ofNat_lt.mp this
    exact Nat.lt_trans h3 (by decide +kernel)
  have mf : mulOk w (if f = true then 1 else 0) := mul_lt big (by cases f <;> decide +kernel)
  obtain ⟨s, hs⟩ : ∃ s, c.fmod 2305843009213693951 = s := ⟨_, rfl⟩
  have hs0 : 0 ≤ s ∧ s < 2305843009213693951 := by rw [← hs]; exact fmod_lt (by decide)
  have m2 : mulOk s 85837 := mul_64 hs0.1 (by omega) (by decide) (by decide)
  obtain ⟨t1, t2⟩ := prod_lt (i := 10993) (j := pl) (a := 10993) (b := 1000) (by decide) (by decide) h0 h1
  have m3 : mulOk 10993 pl := mul_64 (by decide) (by decide) h0 (by omega)
  have m4 : mulOk (10993 * pl) pl := mul_64 t1 (by omega) h0 (by omega)
  refine ⟨w * (if f = true then 1 else 0), (s * 85837 + 10993 * pl * pl + 1361).fmod 2305843009213693921, ?_, ⟨at_end, ?_, ?_, (fmod_lt (by decide)).1, Int.lt_trans (fmod_lt (by decide)).2 (by decide), by decide, by decide⟩⟩
  · have hne : (((10 : Int) ^ 60) ^ 5) ≠ 0 := by decide +kernel
    have st : eSs (GA l) i__law_pot.body [some (.ref 0), some (.int pl), none, none, none] h = .ok (.rt (.ref (h ++ J).length)) (h ++ J ++ [.lst [.int (w * (if f = true then 1 else 0)), .int ((s * 85837 + 10993 * pl * pl + 1361).fmod 2305843009213693921), .int 0]]) := by
      refine (seq_nx e1).trans ((seq_nx (σ1 := [some (.ref 0), some (.int pl), some (.int c), some (.int (w * (if f = true then 1 else 0))), none]) (h1 := h ++ J) ?_).trans ((seq_nx (σ1 := [some (.ref 0), some (.int pl), some (.int c), some (.int (w * (if f = true then 1 else 0))), some (.int s)]) (h1 := h ++ J) ?_).trans (seq_rt ?_)))
      · simp only [es_set, ex_bin, ex_bi, ex_cmp, exs_cons, exs_nil, ex_var, ex_cst, getS_eq, List.getElem?_cons_zero, List.getElem?_cons_succ, Option.join, Option.bind_some, id, ofO_some, bind_ok, bi_abs, bi_intint, pow_10_60, p5, b_mod hne, hw, p18, q_ge, ofB_some, hf, hbi, b_mul mf, st_nm, List.set]
      · simp [b_mod (i := c) (j := 2305843009213693951) (by decide), hs]
      · simp [b_mul m2, b_mul m3, b_mul m4, b_mod (i := _) (j := 2305843009213693921) (by decide), newL, sizeLine]
    rw [st, List.append_assoc]
    refine gcR_new ?_ (by simp) rfl
    rw [← List.append_assoc]
    exact at_end
  · cases f <;> simp <;> omega
  · have h5 : ((10 : Int) ^ 60) ^ 5 = 10 ^ 300 := by decide +kernel
    rw [h5] at hw0
    cases f
    · show w * 0 < _
      rw [Int.mul_zero]
      decide +kernel
    · show w * 1 < _
      rw [Int.mul_one]
      exact hw0.2
end Vy
set_option maxHeartbeats 4000000
namespace Vy
open PySem
open Ra (Sz SzS SzP mul_pow add_pow sub_pow up_pow sz_nrm)
theorem c_law_common (l : Nat) (i j : Int) (h : Hm) : gcR h (CC (l + 1) (Str.ofString "_law_common") [.int i, .int j] h) = .ok (.int (Nat.gcd i.natAbs j.natAbs : Nat)) h := by
  rw [n__law_common]
  have e : eS (GA l) s__law_common_1 [some (.int i.natAbs), some (.int j.natAbs)] h = .ok (.nx [some (.int (Nat.gcd i.natAbs j.natAbs : Nat)), some (.int 0)]) h := es_whl (gcd_loop (GA l) h j.natAbs i.natAbs)
  simp [i__law_common, e, sizeLine]
/-- a number of moderate size -/
def Md (i : Int) : Prop := i.natAbs ≤ 2 ^ 100
theorem Md.lt {i : Int} (h : Md i) : i.natAbs < 2 ^ 1100 := Nat.lt_of_le_of_lt h (Nat.pow_lt_pow_right (by decide) (by decide))
theorem Md.mul {i j : Int} (h1 : Md i) (h2 : Md j) : mulOk i j := mul_lt h1.lt h2.lt
theorem md_of {i : Int} (h : i.natAbs ≤ 2 ^ 62) : Md i := Nat.le_trans h (by decide)
theorem md_div {i j : Int} (h0 : 0 < j) (h : Md j) : divOk i j := by
  refine ⟨by omega, ?_⟩
  have := (Nat.log2_lt (n := j.natAbs) (k := 1100) (by omega)).mpr h.lt
  omega
theorem c_law_fraction {t b : Int} (hb : 0 < b) (mb : Md b) (l : Nat) (h : Hm) : gcR h (CC (l + 2) (Str.ofString "_law_fraction") [.int t, .int b] h) = .ok (fr (Hs.nrm t b)) h := by
  rw [n__law_fraction]
  have hg : 0 < Nat.gcd t.natAbs b.natAbs := Nat.gcd_pos_of_pos_right _ (by omega)
  have hl : Nat.gcd t.natAbs b.natAbs ≤ b.natAbs := Nat.gcd_le_right _ (by omega)
  have o1 : ∀ i, divOk i (Nat.gcd t.natAbs b.natAbs : Nat) := fun i => md_div (by omega) (Nat.le_trans hl mb)
  have e : ∀ x : Int, x.fdiv (Nat.gcd t.natAbs b.natAbs : Nat) = x / (Nat.gcd t.natAbs b.natAbs : Nat) := fun x => Int.fdiv_eq_ediv_of_nonneg _ (by omega)
  simp [i__law_fraction, c_law_common, hb, b_fdiv (o1 t), b_fdiv (o1 b), sizeLine, e, Hs.nrm]
def so (s : Hs.Spot) : Va := .tup [.int s.1, .int s.2.1, .int s.2.2]
@[simp] theorem fold_so {a b c : Int} : Va.tup [.int a, .int b, .int c] = so (a, b, c) := rfl
@[simp] theorem pure_so {s : Hs.Spot} : (so s).pure = true := rfl
section
variable {h t : Hm} {s : Hs.Spot}
@[simp] theorem gc1_so : gcR h (.ok (so s) h) = .ok (so s) h := gcR_same rfl
@[simp] theorem gc2_so : gcR h (.ok (so s) (h ++ t)) = .ok (so s) h := gcR_tail rfl
@[simp] theorem ix_so0 : idxV (so s) (.int 0) h = .ok (.int s.1) h := rfl
@[simp] theorem ix_so1 : idxV (so s) (.int 1) h = .ok (.int s.2.1) h := rfl
@[simp] theorem ix_so2 : idxV (so s) (.int 2) h = .ok (.int s.2.2) h := rfl
end
def soD (s : Hs.Spot) : PyData := .tuple [.int s.1, .int s.2.1, .int s.2.2]
theorem dat_so {g : Nat → Option PyData} (s : Hs.Spot) : (so s).dat g = some (soD s) := by
  show (Va.dats g [.int s.1, .int s.2.1, .int s.2.2]).map PyData.tuple = _
  simp [soD, Va.dat, Va.dats]
theorem lay_so (s : Hs.Spot) : (soD s).canLay0 = true := by simp [soD, PyData.canLay0, PyData.canLayAll0]
theorem dep_so (s : Hs.Spot) : (soD s).depth ≤ 1 := by simp [soD, PyData.depth, PyData.depthAll]
theorem eqv_so (x y : Hs.Spot) : PyData.eqv (soD x) (soD y) = decide (x = y) := by
  simp [soD, PyData.eqv, PyData.eqvAll]
  rw [Bool.eq_iff_iff]
  simp [Prod.ext_iff]
@[simp] theorem q_eq_so {h : Hm} {x y : Hs.Spot} : cmpP h .eq (so x) (so y) = some (decide (x = y)) := by
  have := eqP_of (h := h) (dat_so x) (dat_so y) (shaped_of (lay_so x) (dep_so x) (by decide)) (shaped_of (lay_so y) (dep_so y) (by decide))
  rw [eqv_so] at this
  exact this
@[simp] theorem q_ne_so {h : Hm} {x y : Hs.Spot} : cmpP h .ne (so x) (so y) = some (!decide (x = y)) := by
  show (cmpP h .eq (so x) (so y)).map (!·) = _
  rw [q_eq_so]; rfl
theorem dat_lst {h : Hm} {n : Nat} {α : Type} {f : α → Va} {d : α → PyData} (hf : ∀ a, (f a).dat (datH h 2) = some (d a)) {l : List α} (e : h[n]? = some (.lst (l.map f))) : dat h (.ref n) = some (.list (l.map d)) := by
  show cellDat (datH h 2) h[n]? = _
  rw [e]
  show (Va.dats (datH h 2) (l.map f)).map PyData.list = _
  rw [dats_map hf]
  rfl
theorem shaped_lst {α : Type} {d : α → PyData} {n : Nat} (h1 : ∀ a, (d a).canLay0 = true) (h2 : ∀ a, (d a).depth ≤ n) (hn : n ≤ 60) (l : List α) : SeqAt.shaped (.list (l.map d)) = true := by
  refine shaped_of (n := n + 1) (by simp [PyData.canLay0, canLay_map h1]) ?_ (by omega)
  have := depth_map h2 l
  simp [PyData.depth]
  omega
theorem q_notin_so {h : Hm} {n : Nat} {x : Hs.Spot} {l : List Hs.Spot} (e : h[n]? = some (.lst (l.map so))) : cmpP h .notin (so x) (.ref n) = some (!decide (x ∈ l)) := by
  have e1 : inP h (so x) (.ref n) = some (decide (x ∈ l)) := by
    show (match dat h (so x), dat h (.ref n) with
      | some d, some (.list ds) => if SeqAt.shaped d = true ∧ SeqAt.shaped (.list ds) = true then some (ds.any fun z => PyData.eqv z d) else none
      | _, _ => none) = _
    rw [show dat h (so x) = some (soD x) from dat_so x, dat_lst (fun a => dat_so a) e]
    dsimp only
    rw [if_pos ⟨shaped_of (lay_so x) (dep_so x) (by decide), shaped_lst lay_so dep_so (by decide) l⟩]
    congr 1
    rw [List.any_map]
    simp only [Function.comp_def, eqv_so]
    rw [Bool.eq_iff_iff]
    simp
  show (inP h (so x) (.ref n)).map (!·) = _
  rw [e1]
  rfl
theorem atI_0 {α : Type} {a : α} {l : List α} : atI (a :: l) 0 = some a := by simp [atI, L2.ixN]
theorem rngV_1 {n : Nat} (hn : n ≤ 1000000) : rngV [.int (n : Int)] = some (rng1L n) := by
  have k : rngOk (n : Int) := ⟨by omega, by omega⟩
  unfold rngV
  exact if_pos k
theorem iter_rng1 {n : Nat} (hn : n ≤ 1000000) {H : Hm} : iterV .rng [.int (n : Int)] H = some ⟨rng1L n, []⟩ := by
  show ((rngV [.int (n : Int)]).map fun l => (⟨l, []⟩ : Src)) = _
  rw [rngV_1 hn, Option.map_some]
theorem pures_so (l : List Hs.Spot) : Va.pures (l.map so) = true := pures_map (fun _ => rfl) l
theorem len_lst {h t : Hm} {S : List Hs.Spot} : biV .len [.ref h.length] (h ++ .lst (S.map so) :: t) = .ok (.int S.length) (h ++ .lst (S.map so) :: t) := by
  have : lenV (h ++ .lst (S.map so) :: t) (.ref h.length) = some S.length := by simp [lenV, seqAt]
  simp only [biV, this]
  rfl
theorem bi_lrange {ws l : List Va} {h : Hm} (e : rngV ws = some l) : biV .lrange ws h = newL h l := by
  have k : biV .lrange ws h = (match rngV ws with
    | some l => newL h l
    | none => .bad) := by
    unfold biV
    rfl
  rw [k, e]
theorem sz {n : Nat} (h : n ≤ 1000000) : n ≤ sizeLine := by
  have : sizeLine = 16777216 := rfl
  omega
theorem ex_bi_of {Γ : Ev} {f : Bi} {es : Xs} {σ : Sg} {h h1 : Hm} {ws : List Va} {r : Res Va} (e : eXs Γ es σ h = .ok ws h1) (k : biV f ws h1 = r) : eX Γ (.bi f es) σ h = r := by
  rw [ex_bi, e, bind_ok]
  exact k
theorem len_at {H : Hm} {m : Nat} {ws : List Va} (e : H[m]? = some (.lst ws)) : biV .len [.ref m] H = .ok (.int ws.length) H := len_ref (by simp [seqAt, e])
/-- a comprehension whose elements leave lists behind -/
theorem compL_grow {α : Type} {n : Nat} {g : List (Nat × Ce)} {t : Tg} {test : Sg → Hm → Res Bool} {elt : Sg → Hm → Res Va} {σ : Sg} {enc f : α → Va} {h : Hm} (hn : h.length = n) (held : heldOk g h) :
    ∀ (xs : List α) (acc : List Va) (j : Hm), acc.length + xs.length ≤ sizeLine →
    (∀ x ∈ xs, ∃ σ1, setT t (enc x) σ = some σ1 ∧ ∀ u, test σ1 (h ++ u) = .ok true (h ++ u) ∧ ∃ v, elt σ1 (h ++ u) = .ok (f x) (h ++ (u ++ v))) →
    ∃ v, compL n g t test elt σ (xs.map enc) (h ++ .lst acc :: j) = .ok () (h ++ .lst (acc ++ xs.map f) :: v)
  | [], acc, j, _, _ => ⟨j, by simp [compL, heldOk_app held]⟩
  | x :: xs, acc, j, hl, st => by
    obtain ⟨σ1, e1, e2⟩ := st x List.mem_cons_self
    obtain ⟨e3, v, e4⟩ := e2 (.lst acc :: j)
    have hl' : acc.length < sizeLine := by simp at hl; omega
    obtain ⟨w, ih⟩ := compL_grow hn held xs (acc ++ [f x]) (j ++ v) (by simp at hl ⊢; omega) (fun y hy => st y (List.mem_cons_of_mem _ hy))
    refine ⟨w, ?_⟩
    have hg : (h ++ (.lst acc :: j ++ v))[n]? = some (.lst acc) := by subst hn; simp
    have hs : (h ++ (.lst acc :: j ++ v)).set n (.lst (acc ++ [f x])) = h ++ .lst (acc ++ [f x]) :: (j ++ v) := by subst hn; simp
    rw [List.map_cons]
    unfold compL
    rw [if_pos (heldOk_app held), e1]
    dsimp only
    rw [e3, bind_ok, if_pos rfl, e4, bind_ok, hg]
    dsimp only
    rw [if_pos hl', hs, ih]
    simp
theorem eX_lcg {α : Type} {Γ : Ev} {own : List Nat} {elt : Xp} {t : Tg} {it : It'} {σ : Sg} {h : Hm} {xs : List α} {enc f : α → Va} {g : List (Nat × Ce)} {h0 : Hm} (src : eIt Γ it σ h0 = .ok ⟨xs.map enc, g⟩ h) (held : heldOk g h) (len : xs.length ≤ sizeLine)
    (st : ∀ x ∈ xs, ∃ σ1, setT t (enc x) (wipeS σ own) = some σ1 ∧ ∀ u, ∃ v, eX Γ elt σ1 (h ++ u) = .ok (f x) (h ++ (u ++ v))) :
    ∃ v, eX Γ (.lc own elt t it .none) σ h0 = .ok (.ref h.length) (h ++ .lst (xs.map f) :: v) := by
  obtain ⟨v, k⟩ := compL_grow (f := f) (enc := enc) (t := t) (σ := wipeS σ own) (test := fun σ1 h2 => eIf Γ .none σ1 h2) (elt := fun σ1 h2 => eX Γ elt σ1 h2) (g := g) (n := h.length) rfl held xs [] [] (by simpa using len) (fun x hx => by
    obtain ⟨σ1, e1, e2⟩ := st x hx
    exact ⟨σ1, e1, fun u => ⟨by simp [eIf], e2 u⟩⟩)
  refine ⟨v, ?_⟩
  unfold eX
  rw [src, bind_ok]
  dsimp only
  rw [k]
  simp
theorem tup_mid {h t : Hm} {ws : List Va} : biV .tuple [.ref h.length] (h ++ .lst ws :: t) = .ok (.tup ws) (h ++ .lst ws :: t) := by
  have k : itemsV (h ++ .lst ws :: t) (.ref h.length) = some ws := items_ref (by simp [seqAt])
  simp only [biV, k]
  rfl
def Pot (H : Hm) (p n : Nat) : Prop := ∃ own sm k, PotAt H p n own sm k
def Upd (H H' : Hm) (p : Nat) : Prop := ∃ ws, H' = H.set p (.lst ws) ∧ Va.pures ws = true
theorem Pot.lt {H : Hm} {p n : Nat} (P : Pot H p n) : p < H.length := by
  obtain ⟨_, _, _, P⟩ := P
  exact (List.getElem?_eq_some_iff.mp P.at_).1
theorem Pot.mono {H : Hm} {p n m : Nat} (P : Pot H p n) (h : n ≤ m) : Pot H p m := by
  obtain ⟨o, s, k, P⟩ := P
  exact ⟨o, s, k, P.at_, P.o0, P.o1, P.s0, P.s1, P.k0, by have := P.k1; omega⟩
theorem Pot.app {H t : Hm} {p n : Nat} (P : Pot H p n) : Pot (H ++ t) p n := by
  have hp := P.lt
  obtain ⟨o, s, k, P⟩ := P
  exact ⟨o, s, k, by rw [List.getElem?_append_left hp]; exact P.at_, P.o0, P.o1, P.s0, P.s1, P.k0, P.k1⟩
theorem Pot.of_app {H t : Hm} {p n : Nat} (P : Pot (H ++ t) p n) (hp : p < H.length) : Pot H p n := by
  obtain ⟨o, s, k, P⟩ := P
  exact ⟨o, s, k, by rw [← List.getElem?_append_left hp]; exact P.at_, P.o0, P.o1, P.s0, P.s1, P.k0, P.k1⟩
theorem Pot.refl {H : Hm} {p n : Nat} (P : Pot H p n) : Upd H H p := by
  have hp := P.lt
  obtain ⟨o, s, k, P⟩ := P
  refine ⟨[.int o, .int s, .int k], ?_, rfl⟩
  refine (List.ext_getElem? fun i => ?_)
  by_cases e : p = i
  · subst e
    rw [List.getElem?_set_self hp, P.at_]
  · rw [List.getElem?_set_ne e]
theorem Upd.trans {H G K : Hm} {p : Nat} (a : Upd H G p) (b : Upd G K p) : Upd H K p := by
  obtain ⟨u, rfl, _⟩ := a
  obtain ⟨w, rfl, q⟩ := b
  exact ⟨w, by simp, q⟩
theorem Upd.len {H G : Hm} {p : Nat} (a : Upd H G p) : G.length = H.length := by
  obtain ⟨u, rfl, _⟩ := a
  simp
theorem Upd.app {H t G : Hm} {p : Nat} (a : Upd (H ++ t) G p) (hp : p < H.length) : ∃ H', G = H' ++ t ∧ Upd H H' p := by
  obtain ⟨u, rfl, q⟩ := a
  exact ⟨H.set p (.lst u), by rw [List.set_append_left _ _ hp], u, rfl, q⟩
theorem Upd.gc {H H' t : Hm} {p : Nat} {w : Va} (a : Upd H H' p) (pw : w.pure = true) : gcR H (.ok w (H' ++ t)) = .ok w H' := by
  obtain ⟨u, rfl, q⟩ := a
  exact gcR_set pw q
theorem Upd.gc0 {H H' : Hm} {p : Nat} {w : Va} (a : Upd H H' p) (pw : w.pure = true) : gcR H (.ok w H') = .ok w H' := by
  have := a.gc (t := []) pw
  rwa [List.append_nil] at this
theorem Upd.gcn {H H' t : Hm} {p k : Nat} {ws : List Va} (a : Upd H H' p) (hk : H.length ≤ k) (e : (H' ++ t)[k]? = some (.lst ws)) (pw : Va.pures ws = true) : gcR H (.ok (.ref k) (H' ++ t)) = .ok (.ref H.length) (H' ++ [.lst ws]) := by
  have hl := a.len
  obtain ⟨u, rfl, q⟩ := a
  show Vy.gc H (.ref k) _ = _
  have hk2 : H.length ≤ (H.set p (.lst u) ++ t).length ∧ keptB H (H.set p (.lst u) ++ t) := ⟨by simp, fun i hi => by
    rw [List.getElem?_append_left (by simpa using hi)]
    by_cases e : p = i
    · subst e
      right
      exact ⟨.lst u, by simp [hi], lows_pure _ _ q⟩
    · left
      rw [List.getElem?_set_ne e]⟩
  have ht : (H.set p (.lst u) ++ t).take H.length = H.set p (.lst u) := by
    rw [← hl, List.take_left]
  unfold Vy.gc
  rw [if_pos hk2]
  dsimp only
  rw [if_neg (by omega), e]
  dsimp only
  rw [if_pos (by show Va.lows _ ws = true; exact lows_pure _ _ pw), ht]
theorem c_take {H : Hm} {p n : Nat} {up : Int} (P : Pot H p n) (hn : n ≤ 1000000) (u0 : 0 < up) (u1 : up ≤ 1000000000) (l : Nat) :
    ∃ d H', 0 ≤ d ∧ d < up ∧ gcR H (CC (l + 1) (Str.ofString "_law_take") [.ref p, .int up] H) = .ok (.int d) H' ∧ Upd H H' p ∧ Pot H' p (n + 1) := by
  obtain ⟨o, s, k, P⟩ := P
  obtain ⟨d, o', k', a, b, c, e⟩ := c_law_take P hn u0 u1 l
  exact ⟨d, _, a, b, c, ⟨_, rfl, rfl⟩, ⟨_, _, _, e⟩⟩
theorem or_ff {Γ : Ev} {a b : Xp} {σ : Sg} {H : Hm} (ha : eX Γ a σ H = .ok (.bl false) H) (hb : eX Γ b σ H = .ok (.bl false) H) : eX Γ (.or a b) σ H = .ok (.bl false) H := by
  rw [ex_or, ha, bind_ok]
  exact hb
theorem ife_ff {Γ : Ev} {c : Xp} {s : Ss} {σ : Sg} {H : Hm} (hc : eX Γ c σ H = .ok (.bl false) H) : eS Γ (.ife c s .nil) σ H = .ok (.nx σ) H := by
  rw [es_ife, hc, truR_bl, bind_ok]
  simp
theorem ne_same {Γ : Ev} {a b : Xp} {x : Str} {σ : Sg} {H : Hm} (hx : Asc x) (ha : eX Γ a σ H = .ok (.str x) H) (hb : eX Γ b σ H = .ok (.str x) H) : eX Γ (.cmp .ne a b) σ H = .ok (.bl false) H := by
  rw [ex_cmp, ha, bind_ok, hb, bind_ok, q_ne_str hx hx]
  simp
theorem take_x {l p : Nat} {up d : Int} {σ : Sg} {H H1 : Hm} (h0 : getS σ 0 = some (.ref p)) (k : gcR H (CC (l + 1) (Str.ofString "_law_take") [.ref p, .int up] H) = .ok (.int d) H1) : eX (GA (l + 1)) (.call 28 (Str.ofString "_law_take") (.cons (.var 0) (.cons (.cst (.int up)) .nil))) σ H = .ok (.int d) H1 := by
  rw [ex_call, exs_cons, ex_var, h0, ofO_some, bind_ok, exs_cons, ex_cst, bind_ok, exs_nil, bind_ok, bind_ok, bind_ok, GA_call]
  exact k
theorem c_cells {h : Hm} {ns : List Int} (e : h[0]? = some (.frz (ns.map .int))) (l : Nat) : ∃ k : Nat, k ≤ 2 ∧ gcR h (CC (l + 1) (Str.ofString "_law_cells") [.ref 0, .int 2] h) = .ok (.ref h.length) (h ++ [.lst ((List.range k).map fun (i : Nat) => .int (i : Int))]) := by
  have sq : seqAt h 0 = some (ns.map .int) := by simp [seqAt, e]
  have e1 : biV .len [.ref 0] h = .ok (.int (ns.length : Int)) h := by rw [len_ref sq, List.length_map]
  obtain ⟨k, hk, e2⟩ : ∃ k : Nat, k ≤ 2 ∧ ∃ m : Int, biV .min [.int 2, .int (ns.length : Int)] h = .ok (.int m) h ∧ biV .max [.int 1, .int m] h = .ok (.int (k : Int)) h := by
    by_cases h2 : (ns.length : Int) < 2
    · refine ⟨1, by decide, (ns.length : Int), ?_, ?_⟩
      · show Res.ok (Va.int (if (ns.length : Int) < 2 then (ns.length : Int) else 2)) h = _
        rw [if_pos h2]
      · show Res.ok (Va.int (if (ns.length : Int) > 1 then (ns.length : Int) else 1)) h = _
        rw [if_neg (by omega)]
        rfl
    · refine ⟨2, by decide, 2, ?_, ?_⟩
      · show Res.ok (Va.int (if (ns.length : Int) < 2 then (ns.length : Int) else 2)) h = _
        rw [if_neg h2]
      · rfl
  obtain ⟨m, e2, e3⟩ := e2
  refine ⟨k, hk, ?_⟩
  have e4 : biV .lrange [.int (k : Int)] h = newL h (rng1L k) := bi_lrange (rngV_1 (by omega))
  have e5 : rng1L (k : Int) = (List.range k).map fun (i : Nat) => .int (i : Int) := rfl
  have e6 : newL h (rng1L (k : Int)) = .ok (.ref h.length) (h ++ [.lst (rng1L (k : Int))]) := newL_eq (by rw [e5, List.length_map, List.length_range]; exact sz (by omega))
  rw [e6] at e4
  rw [n__law_cells]
  have hb : i__law_cells.body = .cons (.ret (.bi .lrange (.cons (.bi .max (.cons (.cst (.int 1)) (.cons (.bi .min (.cons (.var 1) (.cons (.bi .len (.cons (.var 0) .nil)) .nil))) .nil))) .nil))) .nil := rfl
  have v0 : ∀ σ : Sg, σ = [some (.ref 0), some (.int 2)] → eX (GA l) (.bi .lrange (.cons (.bi .max (.cons (.cst (.int 1)) (.cons (.bi .min (.cons (.var 1) (.cons (.bi .len (.cons (.var 0) .nil)) .nil))) .nil))) .nil)) σ h = .ok (.ref h.length) (h ++ [.lst (rng1L (k : Int))]) := by
    intro σ hσ
    have a0 : eX (GA l) (.var 0) σ h = .ok (.ref 0) h := by rw [hσ]; simp
    have a1 : eX (GA l) (.var 1) σ h = .ok (.int 2) h := by rw [hσ]; simp
    have a2 : eX (GA l) (.bi .len (.cons (.var 0) .nil)) σ h = .ok (.int (ns.length : Int)) h := ex_bi_of (by rw [exs_cons, a0, bind_ok, exs_nil, bind_ok]) e1
    have a3 : eX (GA l) (.bi .min (.cons (.var 1) (.cons (.bi .len (.cons (.var 0) .nil)) .nil))) σ h = .ok (.int m) h := ex_bi_of (by rw [exs_cons, a1, bind_ok, exs_cons, a2, bind_ok, exs_nil, bind_ok, bind_ok]) e2
    have a4 : eX (GA l) (.bi .max (.cons (.cst (.int 1)) (.cons (.bi .min (.cons (.var 1) (.cons (.bi .len (.cons (.var 0) .nil)) .nil))) .nil))) σ h = .ok (.int (k : Int)) h := ex_bi_of (by rw [exs_cons, ex_cst, bind_ok, exs_cons, a3, bind_ok, exs_nil, bind_ok, bind_ok]) e3
    exact ex_bi_of (by rw [exs_cons, a4, bind_ok, exs_nil, bind_ok]) e4
  have s : eS (GA l) (.ret (.bi .lrange (.cons (.bi .max (.cons (.cst (.int 1)) (.cons (.bi .min (.cons (.var 1) (.cons (.bi .len (.cons (.var 0) .nil)) .nil))) .nil))) .nil))) [some (.ref 0), some (.int 2)] h = .ok (.rt (.ref h.length)) (h ++ [.lst (rng1L (k : Int))]) := by
    rw [es_ret, v0 _ rfl, bind_ok]
  rw [hb, seq_rt s, handed_rt, e5]
  exact gcR_new at_end (Nat.le_refl _) (pures_map (fun _ => rfl) _)
theorem c_cellsN {h : Hm} {ns : List Int} (e : h[0]? = some (.frz (ns.map .int))) {m0 : Nat} (h01 : 1 ≤ m0) (h02 : m0 ≤ 100) (l : Nat) : ∃ k : Nat, k ≤ m0 ∧ gcR h (CC (l + 1) (Str.ofString "_law_cells") [.ref 0, .int (m0 : Nat)] h) = .ok (.ref h.length) (h ++ [.lst ((List.range k).map fun (i : Nat) => .int (i : Int))]) := by
  have sq : seqAt h 0 = some (ns.map .int) := by simp [seqAt, e]
  have e1 : biV .len [.ref 0] h = .ok (.int (ns.length : Int)) h := by rw [len_ref sq, List.length_map]
  obtain ⟨k, hk, e2⟩ : ∃ k : Nat, k ≤ m0 ∧ ∃ m : Int, biV .min [.int (m0 : Nat), .int (ns.length : Int)] h = .ok (.int m) h ∧ biV .max [.int 1, .int m] h = .ok (.int (k : Int)) h := by
    obtain ⟨q, eq, hq⟩ : ∃ q : Nat, (if (ns.length : Int) < (m0 : Int) then (ns.length : Int) else (m0 : Int)) = (q : Int) ∧ q ≤ m0 := by
      by_cases h2 : (ns.length : Int) < (m0 : Int)
      · exact ⟨ns.length, if_pos h2, by omega⟩
      · exact ⟨m0, if_neg h2, Nat.le_refl _⟩
    obtain ⟨k, ek, hk⟩ : ∃ k : Nat, (if (q : Int) > 1 then (q : Int) else 1) = (k : Int) ∧ k ≤ m0 := by
      by_cases h2 : (q : Int) > 1
      · exact ⟨q, if_pos h2, hq⟩
      · exact ⟨1, if_neg h2, h01⟩
    refine ⟨k, hk, (q : Int), ?_, ?_⟩
    · show Res.ok (Va.int (if (ns.length : Int) < (m0 : Int) then (ns.length : Int) else (m0 : Int))) h = _
      rw [eq]
    · show Res.ok (Va.int (if (q : Int) > 1 then (q : Int) else 1)) h = _
      rw [ek]
  obtain ⟨m, e2, e3⟩ := e2
  refine ⟨k, hk, ?_⟩
  have e4 : biV .lrange [.int (k : Int)] h = newL h (rng1L k) := bi_lrange (rngV_1 (by omega))
  have e5 : rng1L (k : Int) = (List.range k).map fun (i : Nat) => .int (i : Int) := rfl
  have e6 : newL h (rng1L (k : Int)) = .ok (.ref h.length) (h ++ [.lst (rng1L (k : Int))]) := newL_eq (by rw [e5, List.length_map, List.length_range]; exact sz (by omega))
  rw [e6] at e4
  rw [n__law_cells]
  have hb : i__law_cells.body = .cons (.ret (.bi .lrange (.cons (.bi .max (.cons (.cst (.int 1)) (.cons (.bi .min (.cons (.var 1) (.cons (.bi .len (.cons (.var 0) .nil)) .nil))) .nil))) .nil))) .nil := rfl
  have v0 : ∀ σ : Sg, σ = [some (.ref 0), some (.int (m0 : Nat))] → eX (GA l) (.bi .lrange (.cons (.bi .max (.cons (.cst (.int 1)) (.cons (.bi .min (.cons (.var 1) (.cons (.bi .len (.cons (.var 0) .nil)) .nil))) .nil))) .nil)) σ h = .ok (.ref h.length) (h ++ [.lst (rng1L (k : Int))]) := by
    intro σ hσ
    have a0 : eX (GA l) (.var 0) σ h = .ok (.ref 0) h := by rw [hσ]; simp
    have a1 : eX (GA l) (.var 1) σ h = .ok (.int (m0 : Nat)) h := by rw [hσ]; simp
    have a2 : eX (GA l) (.bi .len (.cons (.var 0) .nil)) σ h = .ok (.int (ns.length : Int)) h := ex_bi_of (by rw [exs_cons, a0, bind_ok, exs_nil, bind_ok]) e1
    have a3 : eX (GA l) (.bi .min (.cons (.var 1) (.cons (.bi .len (.cons (.var 0) .nil)) .nil))) σ h = .ok (.int m) h := ex_bi_of (by rw [exs_cons, a1, bind_ok, exs_cons, a2, bind_ok, exs_nil, bind_ok, bind_ok]) e2
    have a4 : eX (GA l) (.bi .max (.cons (.cst (.int 1)) (.cons (.bi .min (.cons (.var 1) (.cons (.bi .len (.cons (.var 0) .nil)) .nil))) .nil))) σ h = .ok (.int (k : Int)) h := ex_bi_of (by rw [exs_cons, ex_cst, bind_ok, exs_cons, a3, bind_ok, exs_nil, bind_ok, bind_ok]) e3
    exact ex_bi_of (by rw [exs_cons, a4, bind_ok, exs_nil, bind_ok]) e4
  have s : eS (GA l) (.ret (.bi .lrange (.cons (.bi .max (.cons (.cst (.int 1)) (.cons (.bi .min (.cons (.var 1) (.cons (.bi .len (.cons (.var 0) .nil)) .nil))) .nil))) .nil))) [some (.ref 0), some (.int (m0 : Nat))] h = .ok (.rt (.ref h.length)) (h ++ [.lst (rng1L (k : Int))]) := by
    rw [es_ret, v0 _ rfl, bind_ok]
  rw [hb, seq_rt s, handed_rt, e5]
  exact gcR_new at_end (Nat.le_refl _) (pures_map (fun _ => rfl) _)
theorem all_mid {α : Type} (xs : List α) {h t : Hm} : biV .all [.ref h.length] (h ++ .lst (xs.map fun _ => .bl true) :: t) = .ok (.bl true) (h ++ .lst (xs.map fun _ => .bl true) :: t) := by
  have sq : seqAt (h ++ .lst (xs.map fun _ => .bl true) :: t) h.length = some (xs.map fun _ => .bl true) := by simp only [seqAt, at_mid]
  show ofO _ (((seqAt _ _).bind boolsV).map fun l => .bl (l.all id)) = _
  rw [sq, Option.bind_some, boolsV_map xs (q := fun _ => true)]
  have : (xs.map fun _ => true).all id = true := by simp [List.all_map]
  rw [Option.map_some, this]
  rfl
theorem upd_end {H H' : Hm} {c : Ce} (U : Upd (H ++ [c]) H' H.length) : ∃ c', H' = H ++ [c'] := by
  obtain ⟨ws, rfl, _⟩ := U
  exact ⟨.lst ws, by simp⟩
theorem mp {i j : Int} {k m : Nat} (h1 : i.natAbs ≤ 2 ^ k) (h2 : j.natAbs ≤ 2 ^ m) (hk : k ≤ 1000) (hm : m ≤ 1000) : mulOk i j := mul_lt (Ra.lt1100 h1 (by omega)) (Ra.lt1100 h2 (by omega))
theorem dp {b : Int} {k : Nat} (h0 : 0 < b) (h1 : b.natAbs ≤ 2 ^ k) (hk : k ≤ 1000) : divOk i b := by
  refine ⟨by omega, ?_⟩
  have := (Nat.log2_lt (n := b.natAbs) (k := 1100) (by omega)).mpr (Ra.lt1100 h1 (by omega))
  omega
theorem c_fraction_big {t b : Int} {k : Nat} (hb : 0 < b) (mb : b.natAbs ≤ 2 ^ k) (hk : k ≤ 1000) (l : Nat) (h : Hm) : gcR h (CC (l + 2) (Str.ofString "_law_fraction") [.int t, .int b] h) = .ok (fr (Hs.nrm t b)) h := by
  rw [n__law_fraction]
  have hg : 0 < Nat.gcd t.natAbs b.natAbs := Nat.gcd_pos_of_pos_right _ (by omega)
  have hl : Nat.gcd t.natAbs b.natAbs ≤ b.natAbs := Nat.gcd_le_right _ (by omega)
  have o1 : ∀ i, divOk i (Nat.gcd t.natAbs b.natAbs : Nat) := fun i => dp (k := k) (by omega) (Nat.le_trans hl mb) hk
  have e : ∀ x : Int, x.fdiv (Nat.gcd t.natAbs b.natAbs : Nat) = x / (Nat.gcd t.natAbs b.natAbs : Nat) := fun x => Int.fdiv_eq_ediv_of_nonneg _ (by omega)
  simp [i__law_fraction, c_law_common, hb, b_fdiv (o1 t), b_fdiv (o1 b), sizeLine, e, Hs.nrm]
theorem cut_to1 {α : Type} (xs : List α) : cutL xs none (some 1) = xs.take 1 := by
  simp only [cutL, HT.sIx]
  rw [if_neg (by omega)]
  cases xs with
  | nil => rfl
  | cons a l => simp
theorem add_refs {h : Hm} {n m : Nat} {us ws : List Va} (e1 : h[n]? = some (.lst us)) (e2 : h[m]? = some (.lst ws)) (hl : us.length + ws.length ≤ 1000000) : binV .add (.ref n) (.ref m) h = .ok (.ref h.length) (h ++ [.lst (us ++ ws)]) := by
  have : us.length + ws.length ≤ sizeLine := sz hl
  simp [binV, addV, e1, e2, this, seqAt, newL]
theorem q_eq_nil {h : Hm} {n m : Nat} {L : List Hs.Spot} (e1 : h[n]? = some (.lst (L.map so))) (e2 : h[m]? = some (.lst [])) : cmpP h .eq (.ref n) (.ref m) = some (decide (L = [])) := by
  have d1 := dat_lst (fun a => dat_so a) e1
  have d2 := dat_lst (l := ([] : List Hs.Spot)) (fun a => dat_so a) e2
  have := eqP_of (h := h) d1 d2 (shaped_lst lay_so dep_so (by decide) L) (shaped_lst lay_so dep_so (by decide) [])
  show eqP h (.ref n) (.ref m) = _
  rw [this]
  congr 1
  have k := eqvAll_map eqv_so L []
  simp only [PyData.eqv]
  exact k
theorem nil_cmp {H : Hm} {n : Nat} {L : List Hs.Spot} (e : H[n]? = some (.lst (L.map so))) {Γ : Ev} {σ : Sg} {v : Nat} (hv : getS σ v = some (.ref n)) : eX Γ (.cmp .eq (.var v) (.lst .nil)) σ H = .ok (.bl (decide (L = []))) (H ++ [.lst []]) ∧ eX Γ (.cmp .ne (.var v) (.lst .nil)) σ H = .ok (.bl (!decide (L = []))) (H ++ [.lst []]) := by
  have hn : n < H.length := (List.getElem?_eq_some_iff.mp e).1
  have at1 : (H ++ [Ce.lst []])[n]? = some (.lst (L.map so)) := by rw [List.getElem?_append_left hn]; exact e
  have q := q_eq_nil (m := H.length) at1 at_end
  have x0 : eX Γ (.var v) σ H = .ok (.ref n) H := by rw [ex_var, hv, ofO_some]
  have x1 : eX Γ (.lst .nil) σ H = .ok (.ref H.length) (H ++ [.lst []]) := by
    rw [ex_lst, exs_nil, bind_ok]
    exact newL_eq (by rw [List.length_nil]; exact Nat.zero_le _)
  constructor
  · rw [ex_cmp, x0, bind_ok, x1, bind_ok, q, ofB_some]
  · have q2 : cmpP (H ++ [Ce.lst []]) .ne (.ref n) (.ref H.length) = some (!decide (L = [])) := by
      show (cmpP _ .eq _ _).map (!·) = _
      rw [q]
      rfl
    rw [ex_cmp, x0, bind_ok, x1, bind_ok, q2, ofB_some]
theorem Upd.keep {H H' : Hm} {p n : Nat} (U : Upd H H' p) (h : n ≠ p) : H'[n]? = H[n]? := by
  obtain ⟨ws, rfl, _⟩ := U
  exact List.getElem?_set_ne (Ne.symm h)
theorem c_of_at {H : Hm} {p n m : Nat} {ws : List Va} (P : Pot H p n) (hn : n ≤ 900000) (e : H[m]? = some (.lst ws)) (ne : m ≠ p) (pw : ∀ w ∈ ws, w.pure = true) (h0 : 0 < ws.length) (h1 : ws.length ≤ 1000) (l : Nat) :
    ∃ (w : Va) (H' : Hm), w ∈ ws ∧ gcR H (CC (l + 2) (Str.ofString "_law_of") [.ref p, .ref m] H) = .ok w H' ∧ Upd H H' p ∧ Pot H' p (n + 1) := by
  obtain ⟨d, G, d0, d1, k, U, P'⟩ := c_take P (by omega) (up := (ws.length : Int)) (by omega) (by omega) l
  have e' : G[m]? = some (.lst ws) := by rw [U.keep ne]; exact e
  have hd : d.toNat < ws.length := by omega
  have ha : atI ws d = some (ws[d.toNat]) := by
    have : d = (d.toNat : Int) := by omega
    conv => lhs; rw [this]
    exact atI_nat (List.getElem?_eq_getElem hd)
  refine ⟨ws[d.toNat], G, List.getElem_mem hd, ?_, U, P'⟩
  rw [n__law_of]
  have e1 : biV .len [.ref m] H = .ok (.int (ws.length : Int)) H := len_at e
  have e2 : idxV (.ref m) (.int d) G = .ok ws[d.toNat] G := ix_ref (by simp [seqAt, e']) ha
  have st : eSs (GA (l + 1)) i__law_of.body [some (.ref p), some (.ref m)] H = .ok (.rt ws[d.toNat]) G := by
    simp [i__law_of, e1, k, e2]
  rw [st, handed_rt]
  exact U.gc0 (pw _ (List.getElem_mem hd))
/-- .. of a list that is written where it is asked -/
theorem of_new {Γ : Ev} {l p n k : Nat} {es : Xs} {ws : List Va} {σ : Sg} {H : Hm} (h0 : getS σ 0 = some (.ref p)) (P : Pot H p n) (hn : n ≤ 900000) (he : eXs (GA (l + 2)) es σ H = .ok ws H) (pw : ∀ w ∈ ws, w.pure = true) (l0 : 0 < ws.length) (l1 : ws.length ≤ 1000) :
    ∃ (w : Va) (H' : Hm), w ∈ ws ∧ eX (GA (l + 2)) (.gc (.call k (Str.ofString "_law_of") (.cons (.var 0) (.cons (.lst es) .nil)))) σ H = .ok w H' ∧ Upd H H' p ∧ Pot H' p (n + 1) := by
  have hp := P.lt
  obtain ⟨w, G, hw, kk, U, P'⟩ := c_of_at (P.app (t := [.lst ws])) hn (m := H.length) at_end (by omega) pw l0 l1 l
  obtain ⟨H', rfl, U'⟩ := U.app hp
  have hp' : p < H'.length := by rw [U'.len]; exact hp
  refine ⟨w, H', hw, ?_, U', P'.of_app hp'⟩
  rw [ex_gc, ex_call, exs_cons, ex_var, h0, ofO_some, bind_ok, exs_cons, ex_lst, he, bind_ok, newL_eq (sz (by omega)), bind_ok, exs_nil, bind_ok, bind_ok, bind_ok, GA_call, kk]
  exact U'.gc (pw w hw)
theorem lg_pow {n k : Nat} (h : n ≤ 2 ^ k) (hk : k ≤ 1900) : n.log2 < 1920 := by
  by_cases h0 : n = 0
  · rw [h0]; decide
  · exact (Nat.log2_lt h0).mpr (Nat.lt_of_le_of_lt h (Nat.pow_lt_pow_right (by decide) (by omega)))
theorem smF_sz {k : Nat} {x : Mr.Fr} (h : Sz k x) (hk : k ≤ 1900) : smF x = true := by
  simp [smF, smI, lg_pow h.a hk, lg_pow h.b hk]
theorem smP_sz {k : Nat} {x : Mr.Pt} (h : SzP k x) (hk : k ≤ 1900) : smP x = true := by
  simp [smP, smF_sz h.a hk, smF_sz h.b hk]
/-- two values alike, told by repr -/
theorem ne_repr {Γ : Ev} {a b : Xp} {w : Va} {d : PyData} {σ : Sg} {H H1 H2 : Hm} (ha : eX Γ a σ H = .ok w H1) (hb : eX Γ b σ H1 = .ok w H2) (hd : ∀ G, dat G w = some d) (r : repOk d = true) : eX Γ (.cmp .ne (.bi .repr (.cons a .nil)) (.bi .repr (.cons b .nil))) σ H = .ok (.bl false) H2 := by
  have asc := asc_shown d (repOk_plain r)
  have k1 : eX Γ (.bi .repr (.cons a .nil)) σ H = .ok (.str d.shown) H1 := ex_bi_of (by rw [exs_cons, ha, bind_ok, exs_nil, bind_ok]) (bi_repr (hd H1) r)
  have k2 : eX Γ (.bi .repr (.cons b .nil)) σ H1 = .ok (.str d.shown) H2 := ex_bi_of (by rw [exs_cons, hb, bind_ok, exs_nil, bind_ok]) (bi_repr (hd H2) r)
  rw [ex_cmp, k1, bind_ok, k2, bind_ok, q_ne_str asc asc]
  simp
theorem ife_no {Γ : Ev} {c : Xp} {s : Ss} {σ : Sg} {H H1 : Hm} (hc : eX Γ c σ H = .ok (.bl false) H1) : eS Γ (.ife c s .nil) σ H = .ok (.nx σ) H1 := by
  rw [es_ife, hc, truR_bl, bind_ok, if_neg Bool.false_ne_true, ess_nil]
def Gro (H G : Hm) (p : Nat) : Prop := ∃ H' t, G = H' ++ t ∧ Upd H H' p
theorem Gro.upd {H G : Hm} {p : Nat} (U : Upd H G p) : Gro H G p := ⟨G, [], by simp, U⟩
theorem Gro.tail {H t : Hm} {p n : Nat} (P : Pot H p n) : Gro H (H ++ t) p := ⟨H, t, rfl, P.refl⟩
theorem Gro.trans {H G K : Hm} {p : Nat} (hp : p < H.length) (a : Gro H G p) (b : Gro G K p) : Gro H K p := by
  obtain ⟨H', t, rfl, U⟩ := a
  obtain ⟨G', u, rfl, V⟩ := b
  obtain ⟨H'', rfl, W⟩ := V.app (by rw [U.len]; exact hp)
  exact ⟨H'', t ++ u, by simp, U.trans W⟩
theorem Gro.keep {H G : Hm} {p n : Nat} {c : Ce} (a : Gro H G p) (h : n ≠ p) (e : H[n]? = some c) : G[n]? = some c := by
  obtain ⟨H', t, rfl, U⟩ := a
  have hn := (List.getElem?_eq_some_iff.mp e).1
  rw [List.getElem?_append_left (by rw [U.len]; exact hn), U.keep h, e]
theorem Gro.lt {H G : Hm} {p : Nat} (a : Gro H G p) (hp : p < H.length) : p < G.length := by
  obtain ⟨H', t, rfl, U⟩ := a
  have := U.len
  rw [List.length_append]
  omega
theorem call0 {l k : Nat} {f : Str} {a : Xp} {w r : Va} {σ : Sg} {H G : Hm} (ha : eX (GA l) a σ H = .ok w H) (k1 : gcR H (CC l f [w] H) = .ok r G) : eX (GA l) (.call k f (.cons a .nil)) σ H = .ok r G := by
  rw [ex_call, exs_cons, ha, bind_ok, exs_nil, bind_ok, bind_ok, GA_call, k1]
theorem callk0 {l k : Nat} {f : Str} {ks : List Str} {fs : Xs} {ws : List Va} {r : Va} {σ : Sg} {H G : Hm} (ha : eXs (GA l) fs σ H = .ok ws H) (k1 : gcR H (CC l f ws H) = .ok r G) : eX (GA l) (.callk k f ks .nil fs) σ H = .ok r G := by
  rw [ex_callk, exs_nil, bind_ok, ha, bind_ok, List.nil_append, GA_call, k1]
theorem var0 {Γ : Ev} {i : Nat} {w : Va} {σ : Sg} {H : Hm} (h : getS σ i = some w) : eX Γ (.var i) σ H = .ok w H := by rw [ex_var, h, ofO_some]
section
variable {Γ : Ev} {σ : Sg} {H G K L : Hm}
theorem addg {a b : Xp} {i j : Int} (ha : eX Γ a σ H = .ok (.int i) G) (hb : eX Γ b σ G = .ok (.int j) K) : eX Γ (.bin .add a b) σ H = .ok (.int (i + j)) K := by rw [ex_bin, ha, bind_ok, hb, bind_ok, b_add]
theorem subg {a b : Xp} {i j : Int} (ha : eX Γ a σ H = .ok (.int i) G) (hb : eX Γ b σ G = .ok (.int j) K) : eX Γ (.bin .sub a b) σ H = .ok (.int (i - j)) K := by rw [ex_bin, ha, bind_ok, hb, bind_ok, b_sub]
theorem mulg {a b : Xp} {i j : Int} (ha : eX Γ a σ H = .ok (.int i) G) (hb : eX Γ b σ G = .ok (.int j) K) (m : mulOk i j) : eX Γ (.bin .mul a b) σ H = .ok (.int (i * j)) K := by rw [ex_bin, ha, bind_ok, hb, bind_ok, b_mul m]
theorem negg {a : Xp} {i : Int} (ha : eX Γ a σ H = .ok (.int i) G) : eX Γ (.neg a) σ H = .ok (.int (-i)) G := by rw [ex_neg, ha, bind_ok]
theorem ixg {a : Xp} {w x : Va} {k : Int} (ha : eX Γ a σ H = .ok w G) (e : idxV w (.int k) G = .ok x G) : eX Γ (.idx a (.cst (.int k))) σ H = .ok x G := by rw [ex_idx, ha, bind_ok, ex_cst, bind_ok, e]
theorem xs0 : eXs Γ .nil σ H = .ok [] H := exs_nil
theorem xs1 {e : Xp} {r : Xs} {w : Va} {ws : List Va} (h1 : eX Γ e σ H = .ok w G) (h2 : eXs Γ r σ G = .ok ws K) : eXs Γ (.cons e r) σ H = .ok (w :: ws) K := by rw [exs_cons, h1, bind_ok, h2, bind_ok]
theorem tupg {es : Xs} {ws : List Va} (h : eXs Γ es σ H = .ok ws G) (hl : ws.length ≤ 1000) : eX Γ (.tup es) σ H = .ok (.tup ws) G := by rw [ex_tup, h, bind_ok, if_pos (sz (by omega))]
theorem lstg {es : Xs} {ws : List Va} (h : eXs Γ es σ H = .ok ws G) (hl : ws.length ≤ 1000) : eX Γ (.lst es) σ H = .ok (.ref G.length) (G ++ [.lst ws]) := by rw [ex_lst, h, bind_ok, newL_eq (sz (by omega))]
theorem setg {t : Tg} {e : Xp} {w : Va} {σ1 : Sg} (h : eX Γ e σ H = .ok w G) (s : setT t w σ = some σ1) : eS Γ (.set t e) σ H = .ok (.nx σ1) G := by rw [es_set, h, bind_ok, s]
theorem retg {e : Xp} {w : Va} (h : eX Γ e σ H = .ok w G) : eS Γ (.ret e) σ H = .ok (.rt w) G := by rw [es_ret, h, bind_ok]
theorem eqg {a b : Xp} {i j : Int} (ha : eX Γ a σ H = .ok (.int i) G) (hb : eX Γ b σ G = .ok (.int j) K) : eX Γ (.cmp .eq a b) σ H = .ok (.bl (decide (i = j))) K := by rw [ex_cmp, ha, bind_ok, hb, bind_ok, q_eq, ofB_some]
theorem ife1 {c a b : Xp} {w : Va} (hc : eX Γ c σ H = .ok (.bl true) G) (ha : eX Γ a σ G = .ok w K) : eX Γ (.ife c a b) σ H = .ok w K := by rw [ex_ife, hc, truR_bl, bind_ok, if_pos rfl, ha]
theorem ife2 {c a b : Xp} {w : Va} (hc : eX Γ c σ H = .ok (.bl false) G) (hb : eX Γ b σ G = .ok w K) : eX Γ (.ife c a b) σ H = .ok w K := by rw [ex_ife, hc, truR_bl, bind_ok, if_neg (by decide), hb]
theorem maxg {a b : Xp} {i j : Int} (h : eXs Γ (.cons a (.cons b .nil)) σ H = .ok [.int i, .int j] G) : eX Γ (.bi .max (.cons a (.cons b .nil))) σ H = .ok (.int (if j > i then j else i)) G := ex_bi_of h rfl
theorem ifeS1 {c : Xp} {a b : Ss} {f : Fl} (hc : eX Γ c σ H = .ok (.bl true) G) (ha : eSs Γ a σ G = .ok f K) : eS Γ (.ife c a b) σ H = .ok f K := by rw [es_ife, hc, truR_bl, bind_ok, if_pos rfl, ha]
theorem ifeS2 {c : Xp} {a b : Ss} {f : Fl} (hc : eX Γ c σ H = .ok (.bl false) G) (hb : eSs Γ b σ G = .ok f K) : eS Γ (.ife c a b) σ H = .ok f K := by rw [es_ife, hc, truR_bl, bind_ok, if_neg (by decide), hb]
theorem one_nx {s : Sm} {σ1 : Sg} (h : eS Γ s σ H = .ok (.nx σ1) G) : eSs Γ (.cons s .nil) σ H = .ok (.nx σ1) G := by rw [seq_nx h, ess_nil]
end
theorem take_e {l p : Nat} {up d : Int} {a : Xp} {σ : Sg} {H H1 : Hm} (h0 : getS σ 0 = some (.ref p)) (ha : eX (GA (l + 1)) a σ H = .ok (.int up) H) (k : gcR H (CC (l + 1) (Str.ofString "_law_take") [.ref p, .int up] H) = .ok (.int d) H1) : eX (GA (l + 1)) (.call 28 (Str.ofString "_law_take") (.cons (.var 0) (.cons a .nil))) σ H = .ok (.int d) H1 := by
  rw [ex_call, exs_cons, var0 h0, bind_ok, exs_cons, ha, bind_ok, exs_nil, bind_ok, bind_ok, bind_ok, GA_call, k]
/-- a fraction over a part of six, its top within m -/
structure Q6 (m : Nat) (x : Mr.Fr) : Prop where
  z : 0 < x.2
  g : Nat.gcd x.1.natAbs x.2.natAbs = 1
  d : x.2 ∣ 6
  a : x.1.natAbs ≤ m
theorem q6_nrm {m : Nat} {t b : Int} (hb : 0 < b) (hd : b ∣ 6) (ht : t.natAbs ≤ m) : Q6 m (Hs.nrm t b) := by
  obtain ⟨g, g0, e1, e2, z, co⟩ := Hs.nrm_spec (t := t) hb
  refine ⟨z, co, Int.dvd_trans ⟨g, by rw [Int.mul_comm]; exact e2⟩ hd, ?_⟩
  have := congrArg Int.natAbs e1
  rw [Int.natAbs_mul] at this
  have h1 : 1 * (Hs.nrm t b).1.natAbs ≤ g.natAbs * (Hs.nrm t b).1.natAbs := Nat.mul_le_mul_right _ (by omega)
  omega
/-- a comprehension whose elements draw -/
theorem compL_pot {β : Type} {B m : Nat} {t : Tg} {test : Sg → Hm → Res Bool} {elt : Sg → Hm → Res Va} {σ : Sg} {enc : β → Va} {Q : β → Prop} {p : Nat}
    (ht : ∀ σ1 H, test σ1 H = .ok true H) :
    ∀ (ws : List Va) (H : Hm) (n : Nat) (acc : List β), Pot H p n → n + m * ws.length ≤ B → acc.length + ws.length ≤ sizeLine →
    (∀ w ∈ ws, ∃ σ1, setT t w σ = some σ1 ∧ ∀ G k, Pot G p k → k ≤ B → ∃ y G', Q y ∧ elt σ1 G = .ok (enc y) G' ∧ Upd G G' p ∧ Pot G' p (k + m)) →
    ∃ (ys : List β) (H' : Hm), ys.length = ws.length ∧ (∀ y ∈ ys, Q y) ∧ compL H.length [] t test elt σ ws (H ++ [.lst (acc.map enc)]) = .ok () (H' ++ [.lst ((acc ++ ys).map enc)]) ∧ Upd H H' p ∧ Pot H' p (n + m * ws.length)
  | [], H, n, acc, P, _, _, _ => by
    refine ⟨[], H, rfl, ?_, ?_, P.refl, P⟩
    · intro y hy
      cases hy
    · simp [compL]
  | w :: ws, H, n, acc, P, hB, hl, st => by
    obtain ⟨σ1, e1, e2⟩ := st w List.mem_cons_self
    rw [List.length_cons, Nat.mul_succ] at hB
    obtain ⟨y, G, qy, e3, U, P1⟩ := e2 _ n (P.app (t := [.lst (acc.map enc)])) (by omega)
    obtain ⟨H1, rfl, U1⟩ := U.app P.lt
    have hp1 : p < H1.length := by rw [U1.len]; exact P.lt
    have P2 := P1.of_app hp1
    have hl' : (acc.map enc).length < sizeLine := by rw [List.length_map]; simp at hl; omega
    obtain ⟨ys, H', h1, h2, h3, h4, h5⟩ := compL_pot ht ws H1 (n + m) (acc ++ [y]) P2 (by omega) (by simp at hl ⊢; omega) (fun w hw => st w (List.mem_cons_of_mem _ hw))
    refine ⟨y :: ys, H', by simp [h1], fun z hz => ?_, ?_, U1.trans h4, h5.mono (by rw [List.length_cons, Nat.mul_succ]; omega)⟩
    · rcases List.mem_cons.mp hz with rfl | hz
      · exact qy
      · exact h2 z hz
    · have hg : (H1 ++ [Ce.lst (acc.map enc)])[H.length]? = some (.lst (acc.map enc)) := by rw [← U1.len]; exact at_end
      have hs : (H1 ++ [Ce.lst (acc.map enc)]).set H.length (.lst (acc.map enc ++ [enc y])) = H1 ++ [.lst ((acc ++ [y]).map enc)] := by rw [← U1.len]; simp
      unfold compL
      rw [if_pos heldOk_nil, e1]
      dsimp only
      rw [ht, bind_ok, if_pos rfl, e3, bind_ok, hg]
      dsimp only
      rw [if_pos hl', hs, ← U1.len, h3]
      simp
/-- a point of numbers -/
structure Q6P (m : Nat) (p : Mr.Pt) : Prop where
  a : Q6 m p.1
  b : Q6 m p.2
theorem app_at {H t : Hm} {n : Nat} {c : Ce} (e : H[n]? = some c) : (H ++ t)[n]? = some c := by
  have hn := (List.getElem?_eq_some_iff.mp e).1
  rw [List.getElem?_append_left hn]
  exact e
theorem held1 {H : Hm} {n : Nat} {c : Ce} (e : H[n]? = some c) : heldOk [(n, c)] H := fun p hp => by
  simp only [List.mem_cons, List.not_mem_nil, or_false] at hp
  subst hp
  exact e
theorem call2 {l k : Nat} {f : Str} {a b : Xp} {w x r : Va} {σ : Sg} {H G : Hm} (ha : eX (GA l) a σ H = .ok w H) (hb : eX (GA l) b σ H = .ok x H) (k1 : gcR H (CC l f [w, x] H) = .ok r G) : eX (GA l) (.call k f (.cons a (.cons b .nil))) σ H = .ok r G := by
  rw [ex_call, exs_cons, ha, bind_ok, exs_cons, hb, bind_ok, exs_nil, bind_ok, bind_ok, bind_ok, GA_call, k1]
theorem ne_dat {Γ : Ev} {a b : Xp} {w x : Va} {d : PyData} {σ : Sg} {H H1 H2 : Hm} (ha : eX Γ a σ H = .ok w H1) (hb : eX Γ b σ H1 = .ok x H2) (d1 : dat H1 w = some d) (d2 : dat H2 x = some d) (r : repOk d = true) : eX Γ (.cmp .ne (.bi .repr (.cons a .nil)) (.bi .repr (.cons b .nil))) σ H = .ok (.bl false) H2 := by
  have asc := asc_shown d (repOk_plain r)
  have k1 : eX Γ (.bi .repr (.cons a .nil)) σ H = .ok (.str d.shown) H1 := ex_bi_of (by rw [exs_cons, ha, bind_ok, exs_nil, bind_ok]) (bi_repr d1 r)
  have k2 : eX Γ (.bi .repr (.cons b .nil)) σ H1 = .ok (.str d.shown) H2 := ex_bi_of (by rw [exs_cons, hb, bind_ok, exs_nil, bind_ok]) (bi_repr d2 r)
  rw [ex_cmp, k1, bind_ok, k2, bind_ok, q_ne_str asc asc]
  simp
theorem eq_dat {Γ : Ev} {a b : Xp} {w x : Va} {d : PyData} {σ : Sg} {H H1 H2 : Hm} (ha : eX Γ a σ H = .ok w H1) (hb : eX Γ b σ H1 = .ok x H2) (d1 : dat H1 w = some d) (d2 : dat H2 x = some d) (r : repOk d = true) : eX Γ (.cmp .eq (.bi .repr (.cons a .nil)) (.bi .repr (.cons b .nil))) σ H = .ok (.bl true) H2 := by
  have asc := asc_shown d (repOk_plain r)
  have k1 : eX Γ (.bi .repr (.cons a .nil)) σ H = .ok (.str d.shown) H1 := ex_bi_of (by rw [exs_cons, ha, bind_ok, exs_nil, bind_ok]) (bi_repr d1 r)
  have k2 : eX Γ (.bi .repr (.cons b .nil)) σ H1 = .ok (.str d.shown) H2 := ex_bi_of (by rw [exs_cons, hb, bind_ok, exs_nil, bind_ok]) (bi_repr d2 r)
  rw [ex_cmp, k1, bind_ok, k2, bind_ok, q_eq_str asc asc]
  simp
end Vy
set_option maxHeartbeats 4000000
namespace Vy
open PySem
theorem c_is_integer (i a b : Int) (l : Nat) (h : Hm) : gcR h (CC (l + 2) (Str.ofString "is_integer") [.int i, .int a, .int b] h) = .ok (.bl (decide (a ≤ i) && decide (i ≤ b))) h := by
  rw [n_is_integer]
  by_cases h1 : a ≤ i
  · by_cases h2 : i ≤ b <;> simp [i_is_integer, h1, h2]
  · simp [i_is_integer, h1]
/-! readings -/
def ob : Option Int → Va
  | none => .non
  | some i => .int i
structure Rd where
  src : Str
  ax : Nat
  fi : Nat
  la : Nat
  p : Int
  q : Int
  lo : Option Int
  hi : Option Int
def rdV (r : Rd) : Va := .tup [.str r.src, .int (r.ax : Nat), .int (r.fi : Nat), .int (r.la : Nat), .int r.p, .int r.q, ob r.lo, ob r.hi]
def letters : Str := Str.ofString "abcdefghijklmnopqrstuvwxyz"
def named : Str := Str.ofString "abcdefghijklmnopqrstuvwxyz0123456789"
structure NameOk (x : Str) : Prop where
  asc : Asc x
  len : x.length ≤ 8
  first : ∃ c r, x.cps.toList = c :: r ∧ c ∈ letters.cps.toList
  all_ : ∀ c ∈ x.cps.toList, c ∈ named.cps.toList
theorem in_str {h : Hm} {c : Nat} {y : Str} : cmpP h .inn (.str ⟨#[c]⟩) (.str y) = some (decide (c ∈ y.cps.toList)) := rfl
theorem c_is_name {x : Str} (o : NameOk x) (l : Nat) (h : Hm) : gcR h (CC (l + 1) (Str.ofString "is_name") [.str x] h) = .ok (.bl true) h := by
  rw [n_is_name]
  obtain ⟨c, r, e, hc⟩ := o.first
  have xl : x.length = (c :: r).length := by
    rw [← e]
    rfl
  have ne : ¬ x = Str.ofString "" := fun z => by
    rw [z] at e
    cases e
  have a0 : Asc (Str.ofString "") := asc_of (by decide)
  have sl : x.length ≤ sizeLine := sz (by have := o.len; omega)
  have ln : biV .len [.str x] h = .ok (.int (x.length : Nat)) h := by
    show ofO h ((lenV h (.str x)).map fun (n : Nat) => Va.int (n : Int)) = _
    show ofO h ((if x.length ≤ sizeLine then some x.length else none).map fun (n : Nat) => Va.int (n : Int)) = _
    rw [if_pos sl]
    rfl
  have ix : idxV (.str x) (.int 0) h = .ok (.str ⟨#[c]⟩) h := by
    show (if x.length ≤ sizeLine then (match atI x.cps.toList 0 with
      | some c => Res.ok (Va.str ⟨#[c]⟩) h
      | none => .bad) else .bad) = _
    rw [if_pos sl, e]
    show (match atI (c :: r) 0 with
      | some c => Res.ok (Va.str ⟨#[c]⟩) h
      | none => .bad) = _
    rw [atI_0]
  have src : eIt (GA l) (.seq (.var 0)) [some (.str x), none] h = .ok ⟨x.cps.toList.map fun c => .str ⟨#[c]⟩, []⟩ h := by
    rw [eit_seq, var0 (w := .str x) rfl, bind_ok]
    show (match (if x.length ≤ sizeLine then some (Src.mk (x.cps.toList.map fun c => Va.str ⟨#[c]⟩) []) else none) with
      | some s => Res.ok s h
      | none => .bad) = _
    rw [if_pos sl]
  have lc : eX (GA l) x_is_name_1 [some (.str x), none] h = .ok (.ref h.length) (h ++ [.lst (x.cps.toList.map fun _ => .bl true)]) := by
    refine eX_lc (xs := x.cps.toList) (enc := fun c => .str ⟨#[c]⟩) (g := []) src heldOk_nil (by have : x.cps.toList.length = x.length := rfl; omega) fun c hc => ⟨[some (.str x), some (.str ⟨#[c]⟩)], rfl, fun u => ?_⟩
    rw [ex_cmp, var0 (w := .str ⟨#[c]⟩) rfl, bind_ok, ex_glob, v_NAMED, ofO_some, bind_ok]
    rw [show Str.ofString "abcdefghijklmnopqrstuvwxyz0123456789" = named from rfl, in_str, decide_eq_true (o.all_ c hc), ofB_some]
  have e0 : i_is_name.body = .cons (.ife (.or (.not (.bi .isinst (.cons (.var 0) (.cons (.cst (.ty "str")) .nil)))) (.or (.cmp .eq (.var 0) (.cst (.str (Str.ofString "")))) (.cmp .gt (.bi .len (.cons (.var 0) .nil)) (.glob 2 (Str.ofString "EIGHT"))))) (.cons (.ret (.cst (.bl false))) .nil) .nil) (.cons (.ret (.and (.cmp .inn (.idx (.var 0) (.cst (.int 0))) (.glob 11 (Str.ofString "LETTERS"))) (.gc (.bi .all (.cons x_is_name_1 .nil))))) .nil) := by kernel_rfl
  have s1 : eS (GA l) (.ife (.or (.not (.bi .isinst (.cons (.var 0) (.cons (.cst (.ty "str")) .nil)))) (.or (.cmp .eq (.var 0) (.cst (.str (Str.ofString "")))) (.cmp .gt (.bi .len (.cons (.var 0) .nil)) (.glob 2 (Str.ofString "EIGHT"))))) (.cons (.ret (.cst (.bl false))) .nil) .nil) [some (.str x), none] h = .ok (.nx [some (.str x), none]) h := by
    have hl := o.len
    refine ife_no (or_ff ?_ (or_ff ?_ ?_))
    · rw [ex_not, ex_bi_of (by rw [exs_cons, var0 (w := .str x) rfl, bind_ok, exs_cons, ex_cst, bind_ok, exs_nil, bind_ok, bind_ok]) (bi_inst (by decide))]
      rfl
    · rw [ex_cmp, var0 (w := .str x) rfl, bind_ok, ex_cst, bind_ok, q_eq_str o.asc a0, decide_eq_false ne, ofB_some]
    · rw [ex_cmp, ex_bi_of (by rw [exs_cons, var0 (w := .str x) rfl, bind_ok, exs_nil, bind_ok]) ln, bind_ok, ex_glob, v_EIGHT, ofO_some, bind_ok, q_gt, decide_eq_false (by omega), ofB_some]
  have s2 : eS (GA l) (.ret (.and (.cmp .inn (.idx (.var 0) (.cst (.int 0))) (.glob 11 (Str.ofString "LETTERS"))) (.gc (.bi .all (.cons x_is_name_1 .nil))))) [some (.str x), none] h = .ok (.rt (.bl true)) h := by
    have al : eX (GA l) (.gc (.bi .all (.cons x_is_name_1 .nil))) [some (.str x), none] h = .ok (.bl true) h := by
      rw [ex_gc, ex_bi_of (by rw [exs_cons, lc, bind_ok, exs_nil, bind_ok]) (all_mid (t := []) x.cps.toList)]
      exact gc2_bl
    refine retg ?_
    rw [ex_and, ex_cmp, ixg (w := .str x) (var0 rfl) ix, bind_ok, ex_glob, v_LETTERS, ofO_some, bind_ok, show Str.ofString "abcdefghijklmnopqrstuvwxyz" = letters from rfl, in_str, decide_eq_true hc, ofB_some, bind_ok]
    exact al
  rw [e0, seq_nx s1, seq_rt s2, handed_rt]
  exact gc1_bl
structure BdOk (o : Option Int) : Prop where
  b : ∀ i, o = some i → i.natAbs ≤ 9999
theorem c_is_bound {o : Option Int} (k : BdOk o) (l : Nat) (h : Hm) : gcR h (CC (l + 3) (Str.ofString "is_bound") [ob o] h) = .ok (.bl true) h := by
  rw [n_is_bound]
  cases o with
  | none => simp [i_is_bound, ob]
  | some i =>
    have := k.b i rfl
    have h1 : (-9999 : Int) ≤ i := by omega
    have h2 : i ≤ 9999 := by omega
    simp [i_is_bound, ob, c_is_integer, h1, h2]
structure BdsOk (lo hi : Option Int) : Prop where
  klo : BdOk lo
  khi : BdOk hi
  one : lo = none → hi = none → False
  le : ∀ a b, lo = some a → hi = some b → a ≤ b
theorem c_are_bounds {lo hi : Option Int} (k : BdsOk lo hi) (l : Nat) (h : Hm) : gcR h (CC (l + 4) (Str.ofString "are_bounds") [ob lo, ob hi] h) = .ok (.bl true) h := by
  rw [n_are_bounds]
  have k1 := c_is_bound k.klo l h
  have k2 := c_is_bound k.khi l h
  cases lo with
  | none =>
    cases hi with
    | none => exact (k.one rfl rfl).elim
    | some b => simp [ob] at k1 k2; simp [i_are_bounds, ob, k1, k2]
  | some a =>
    cases hi with
    | none => simp [ob] at k1 k2; simp [i_are_bounds, ob, k1, k2]
    | some b =>
      have := k.le a b rfl rfl
      simp [ob] at k1 k2
      simp [i_are_bounds, ob, k1, k2, this]
structure RdOk (r : Rd) : Prop where
  src : NameOk r.src
  ax : r.ax ≤ 2
  fi : r.fi ≤ 12
  la : r.fi ≤ r.la ∧ r.la ≤ r.fi + 3 ∧ r.la ≤ 12
  p : r.p.natAbs ≤ 9
  q : r.q.natAbs ≤ 9
  nz : ¬ (r.p = 0 ∧ r.q = 0)
  bds : BdsOk r.lo r.hi
theorem st8 {a b c d e f g i : Va} {σ : Sg} {t1 t2 t3 t4 t5 t6 t7 t8 : Tg} : setT (.tup [t1, t2, t3, t4, t5, t6, t7, t8]) (.tup [a, b, c, d, e, f, g, i]) σ = setTs [t1, t2, t3, t4, t5, t6, t7, t8] [a, b, c, d, e, f, g, i] σ := rfl
theorem c_is_reading {r : Rd} (o : RdOk r) (l : Nat) (h : Hm) : gcR h (CC (l + 5) (Str.ofString "is_reading") [rdV r] h) = .ok (.bl true) h := by
  rw [n_is_reading]
  have k0 := c_is_tuple [.str r.src, .int (r.ax : Nat), .int (r.fi : Nat), .int (r.la : Nat), .int r.p, .int r.q, ob r.lo, ob r.hi] 8 8 (l + 3) h
  have k1 := c_is_name o.src (l + 3) h
  have k2 := c_is_integer (r.ax : Nat) 0 2 (l + 2) h
  have k3 := c_is_integer (r.fi : Nat) 0 12 (l + 2) h
  have k5 := c_is_integer r.p (-9) 9 (l + 2) h
  have k6 := c_is_integer r.q (-9) 9 (l + 2) h
  have k7 := c_are_bounds o.bds l h
  obtain ⟨m, hm⟩ : ∃ m : Int, (if (12 : Int) < (r.fi : Int) + 3 then (12 : Int) else (r.fi : Int) + 3) = m := ⟨_, rfl⟩
  have k4 := c_is_integer (r.la : Nat) (r.fi : Nat) m (l + 2) h
  have hl := o.la
  have hf := o.fi
  have ha := o.ax
  have hp := o.p
  have hq := o.q
  have g1 : (r.la : Int) ≤ m := by rw [← hm]; split <;> omega
  have mn : biV .min [.int ((r.fi : Int) + 3), .int 12] h = .ok (.int m) h := by
    rw [← hm]
    rfl
  rw [decide_eq_true (by omega), decide_eq_true (by omega)] at k2 k3 k4 k5 k6
  have z : cmpP h .eq (fr (r.p, r.q)) (fr (0, 0)) = some false := by
    rw [q_eq_fr, decide_eq_false (fun z => o.nz ⟨congrArg Prod.fst z, congrArg Prod.snd z⟩)]
  simp only [Bool.and_true] at k2 k3 k4 k5 k6
  unfold rdV
  simp at k0
  have nz := o.nz
  simp [i_is_reading, k0, k1, k2, k3, k4, k5, k6, k7, mn, z, nz, sizeLine]
theorem c_check_reading {r : Rd} (o : RdOk r) (l : Nat) (h : Hm) : gcR h (CC (l + 6) (Str.ofString "check_reading") [rdV r] h) = .ok .non h := by
  rw [n_check_reading]
  simp [i_check_reading, c_is_reading o]
end Vy
set_option maxHeartbeats 4000000
namespace Vy
open PySem
theorem ex_sds {Γ : Ev} {own : List Nat} {key : Xp} {t : Tg} {it : It'} {σ : Sg} {h : Hm} : eX Γ (.sds own key t it) σ h = (eIt Γ it σ h).bind fun s h1 => (dcL s.held t (fun σ1 h2 => eX Γ key σ1 h2) (wipeS σ own) s.items [] h1).bind fun acc h2 => sdsV acc h2 := by rw [eX] <;> rfl
theorem ex_ldi {Γ : Ev} {own : List Nat} {key : Xp} {t : Tg} {it : It'} {σ : Sg} {h : Hm} : eX Γ (.ldi own key t it) σ h = (eIt Γ it σ h).bind fun s h1 => (dcL s.held t (fun σ1 h2 => eX Γ key σ1 h2) (wipeS σ own) s.items [] h1).bind fun acc h2 => .ok (.int (acc.length : Nat)) h2 := by rw [eX] <;> rfl
theorem ex_sss {Γ : Ev} {e : Xp} {σ : Sg} {h : Hm} : eX Γ (.sss e) σ h = (eX Γ e σ h).bind fun x h1 => sssV x h1 := by rw [eX] <;> rfl
theorem addKey_tx (l : List Str) (x : Str) : addKey (l.map .inr) (.inr x) = ((addTx l x).map .inr : List L2.Key) := by
  unfold addKey addTx
  by_cases hx : x ∈ l
  · rw [if_pos hx, if_pos]
    simp only [List.any_map, List.any_eq_true, Function.comp, decide_eq_true_eq]
    exact ⟨x, hx, rfl⟩
  · rw [if_neg hx, if_neg]
    · simp
    · simp only [List.any_map, List.any_eq_true, Function.comp, decide_eq_true_eq]
      rintro ⟨y, hy, e⟩
      cases e
      exact hx hy
theorem keyTxs_map : ∀ l : List Str, keyTxs (l.map .inr) = some l
  | [] => rfl
  | x :: l => by simp [keyTxs, keyTxs_map l]
theorem addTx_len (l : List Str) (x : Str) : (addTx l x).length ≤ l.length + 1 := by
  unfold addTx
  split <;> simp
theorem addAll_len : ∀ (r l : List Str), (addAll r l).length ≤ l.length + r.length
  | [], l => by simp [addAll]
  | x :: r, l => by
    have h1 := addAll_len r (addTx l x)
    have h2 := addTx_len l x
    simp only [addAll, List.length_cons]
    omega
theorem insS_len (a : Str) : ∀ l : List Str, (insS a l).length = l.length + 1
  | [] => rfl
  | b :: l => by
    unfold insS
    split
    · simp [insS_len a l]
    · simp
theorem sortS_len : ∀ l : List Str, (sortS l).length = l.length
  | [] => rfl
  | a :: l => by rw [sortS, insS_len, sortS_len l]; rfl
theorem addTx_nd {l : List Str} (h : l.Nodup) (x : Str) : (addTx l x).Nodup := by
  unfold addTx
  split
  · exact h
  · rename_i n
    rw [List.nodup_append]
    exact ⟨h, by simp, fun a ha b hb => by simp at hb; subst hb; rintro rfl; exact n ha⟩
theorem addAll_nd : ∀ (r : List Str) {l : List Str}, l.Nodup → (addAll r l).Nodup
  | [], l, h => h
  | x :: r, l, h => addAll_nd r (addTx_nd h x)
theorem addTx_sub {l A : List Str} (h : ∀ y ∈ l, y ∈ A) {x : Str} (hx : x ∈ A) : ∀ y ∈ addTx l x, y ∈ A := by
  unfold addTx
  split
  · exact h
  · intro y hy
    rcases List.mem_append.mp hy with k | k
    · exact h y k
    · simp at k
      subst k
      exact hx
theorem addAll_sub : ∀ (r : List Str) {l A : List Str}, (∀ y ∈ l, y ∈ A) → (∀ x ∈ r, x ∈ A) → ∀ y ∈ addAll r l, y ∈ A
  | [], l, A, h, _ => h
  | x :: r, l, A, h, hr => addAll_sub r (addTx_sub h (hr x List.mem_cons_self)) (fun y hy => hr y (List.mem_cons_of_mem _ hy))
theorem dcL_tx {α : Type} {key : Sg → Hm → Res Va} {t : Tg} {σ : Sg} {h : Hm} {enc : α → Va} {f : α → Str} :
    ∀ (xs : List α) (acc : List Str), acc.length + xs.length ≤ 60 → (∀ x ∈ xs, ∃ σ1, setT t (enc x) σ = some σ1 ∧ key σ1 h = .ok (.str (f x)) h) →
      dcL [] t key σ (xs.map enc) (acc.map .inr) h = .ok ((addAll (xs.map f) acc).map .inr) h
  | [], acc, _, _ => by simp [dcL, addAll]
  | x :: xs, acc, hl, st => by
    obtain ⟨σ1, e1, e2⟩ := st x List.mem_cons_self
    have hl2 : ((acc.map .inr : List L2.Key)).length < sizeLine := by
      rw [List.length_map]
      refine sz ?_
      simp at hl
      omega
    rw [List.map_cons]
    unfold dcL
    rw [if_pos heldOk_nil, e1]
    dsimp only
    rw [e2, bind_ok]
    show (if _ then _ else _) = _
    rw [if_pos hl2, addKey_tx, dcL_tx xs (addTx acc (f x)) (by have := addTx_len acc (f x); simp at hl; omega) (fun y hy => st y (List.mem_cons_of_mem _ hy))]
    rfl
def srcs (rs : List Rd) : List Str := sortS (addAll (rs.map Rd.src) [])
theorem ix_rd0 {h : Hm} {r : Rd} : idxV (rdV r) (.int 0) h = .ok (.str r.src) h := ix_tup rfl
theorem ix_rd1 {h : Hm} {r : Rd} : idxV (rdV r) (.int 1) h = .ok (.int (r.ax : Nat)) h := ix_tup rfl
theorem ix_rd2 {h : Hm} {r : Rd} : idxV (rdV r) (.int 2) h = .ok (.int (r.fi : Nat)) h := ix_tup rfl
theorem ix_rd3 {h : Hm} {r : Rd} : idxV (rdV r) (.int 3) h = .ok (.int (r.la : Nat)) h := ix_tup rfl
theorem srcs_len (rs : List Rd) : (srcs rs).length ≤ rs.length := by
  unfold srcs
  rw [sortS_len]
  have := addAll_len (rs.map Rd.src) []
  simpa using this
theorem newL_60 {h : Hm} {ws : List Va} (hl : ws.length ≤ 1000) : newL h ws = .ok (.ref h.length) (h ++ [.lst ws]) := newL_eq (sz (by omega))
theorem c_sources_of {rs : List Rd} (hl : rs.length ≤ 60) (l : Nat) (h : Hm) : gcR h (CC (l + 1) (Str.ofString "sources_of") [.tup (rs.map rdV)] h) = .ok (.ref h.length) (h ++ [.lst ((srcs rs).map .str)]) := by
  rw [n_sources_of]
  have k : (srcs rs).length ≤ 60 := Nat.le_trans (srcs_len rs) hl
  have e : eX (GA l) x_sources_of_1 [some (.tup (rs.map rdV)), none] h = .ok (.ref h.length) (h ++ [.lst ((srcs rs).map .str)]) := by
    unfold x_sources_of_1
    rw [ex_sds, eit_seq, var0 (w := .tup (rs.map rdV)) rfl, bind_ok, src_tup]
    dsimp only
    rw [bind_ok]
    have d := dcL_tx (key := fun σ1 h2 => eX (GA l) (.idx (.var 1) (.cst (.int 0))) σ1 h2) (t := .nm 1) (σ := [some (.tup (rs.map rdV)), none]) (h := h) (enc := rdV) (f := Rd.src) rs [] (by simpa using hl) fun x _ => ⟨_, rfl, ixg (w := rdV x) (var0 rfl) ix_rd0⟩
    rw [show wipeS [some (.tup (rs.map rdV)), none] [1] = [some (.tup (rs.map rdV)), none] from rfl]
    rw [show ([] : List L2.Key) = ([] : List Str).map .inr from rfl, d, bind_ok]
    have k2 : (addAll (rs.map Rd.src) []).length < 64 := by
      have := addAll_len (rs.map Rd.src) []
      simp at this
      omega
    unfold sdsV
    rw [keyTxs_map]
    dsimp only
    rw [if_pos k2]
    exact newL_60 (by rw [List.length_map]; exact Nat.le_trans k (by omega))
  show gcR h (handed (eSs (GA l) (.cons (.ret x_sources_of_1) .nil) _ h)) = _
  rw [seq_rt (retg e), handed_rt]
  exact gcR_new at_end (Nat.le_refl _) (pures_map (fun _ => rfl) _)
theorem c_is_unsure (r : Rd) (l : Nat) (h : Hm) : gcR h (CC (l + 1) (Str.ofString "is_unsure") [rdV r] h) = .ok (.bl (!decide (r.fi = r.la))) h := by
  rw [n_is_unsure]
  simp [i_is_unsure, ix_rd2, ix_rd3]
  omega
structure FewOk (rs : List Rd) : Prop where
  all_ : ∀ r ∈ rs, RdOk r
  len : rs.length ≤ 24
  few : (srcs rs).length ≤ 6
  sure : ∀ r ∈ rs, r.fi = r.la
theorem lc_are_few {rs : List Rd} (o : FewOk rs) (l : Nat) (h : Hm) : eX (GA (l + 1)) x_are_few_1 [some (.tup (rs.map rdV)), none] h = .ok (.ref h.length) (h ++ [.lst []]) := by
  have e : rs.filter (fun r => !decide (r.fi = r.la)) = [] := by
    rw [List.filter_eq_nil_iff]
    intro r hr
    simp [o.sure r hr]
  have k := eX_lcf (Γ := GA (l + 1)) (own := [1]) (elt := .var 1) (c := .call 17 (Str.ofString "is_unsure") (.cons (.var 1) .nil)) (t := .nm 1) (it := .seq (.var 0)) (σ := [some (.tup (rs.map rdV)), none]) (h := h) (h0 := h) (xs := rs) (enc := rdV) (f := rdV) (q := fun r => !decide (r.fi = r.la)) (g := [])
    (by rw [eit_seq, var0 (w := .tup (rs.map rdV)) rfl, bind_ok, src_tup]) heldOk_nil (sz (by have := o.len; omega)) fun r _ => ⟨[some (.tup (rs.map rdV)), some (rdV r)], rfl, fun u => ⟨by
      rw [call0 (var0 (w := rdV r) rfl) (c_is_unsure r l _), truR_bl], fun _ => var0 (w := rdV r) rfl⟩⟩
  rw [e] at k
  exact k
theorem c_are_few {rs : List Rd} (o : FewOk rs) (l : Nat) (h : Hm) : gcR h (CC (l + 2) (Str.ofString "are_few") [.tup (rs.map rdV)] h) = .ok (.bl true) h := by
  rw [n_are_few]
  have hl := o.len
  have hf := o.few
  have s1 : eS (GA (l + 1)) (.ife (.or (.cmp .gt (.bi .len (.cons (.var 0) .nil)) (.glob 5 (Str.ofString "MOST_READINGS"))) (.cmp .gt (.gc (.bi .len (.cons (.call 16 (Str.ofString "sources_of") (.cons (.var 0) .nil)) .nil))) (.glob 8 (Str.ofString "MOST_SOURCES")))) (.cons (.ret (.cst (.bl false))) .nil) .nil) [some (.tup (rs.map rdV)), none] h = .ok (.nx [some (.tup (rs.map rdV)), none]) h := by
    refine ife_no (or_ff ?_ ?_)
    · rw [ex_cmp, ex_bi_of (by rw [exs_cons, var0 (w := .tup (rs.map rdV)) rfl, bind_ok, exs_nil, bind_ok]) len_tup, bind_ok, ex_glob, v_MOST_READINGS, ofO_some, bind_ok, q_gt, decide_eq_false (by rw [List.length_map]; omega), ofB_some]
    · have b := call0 (l := l + 1) (k := 16) (f := Str.ofString "sources_of") (a := .var 0) (σ := [some (.tup (rs.map rdV)), none]) (var0 rfl) (c_sources_of (rs := rs) (by omega) l h)
      have ln := len_at (H := h ++ [.lst ((srcs rs).map .str)]) (m := h.length) at_end
      rw [ex_cmp, ex_gc, ex_bi_of (by rw [exs_cons, b, bind_ok, exs_nil, bind_ok]) ln, gc2_int, bind_ok, ex_glob, v_MOST_SOURCES, ofO_some, bind_ok, q_gt, decide_eq_false (by rw [List.length_map]; omega), ofB_some]
  have s2 : eS (GA (l + 1)) (.ret (.cmp .le (.gc (.bi .len (.cons x_are_few_1 .nil))) (.glob 9 (Str.ofString "MOST_UNSURE")))) [some (.tup (rs.map rdV)), none] h = .ok (.rt (.bl true)) h := by
    refine retg ?_
    have ln := len_at (H := h ++ [.lst []]) (m := h.length) at_end
    rw [ex_cmp, ex_gc, ex_bi_of (by rw [exs_cons, lc_are_few o, bind_ok, exs_nil, bind_ok]) ln, gc2_int, bind_ok, ex_glob, v_MOST_UNSURE, ofO_some, bind_ok, q_le]
    rfl
  show gcR h (handed (eSs (GA (l + 1)) (.cons _ (.cons _ .nil)) _ h)) = _
  rw [seq_nx s1, seq_rt s2, handed_rt]
  exact gc1_bl
theorem pure_rd (r : Rd) : (rdV r).pure = true := by
  unfold rdV
  cases r.lo <;> cases r.hi <;> rfl
theorem c_check_readings {rs : List Rd} (o : FewOk rs) (l : Nat) (h : Hm) : gcR h (CC (l + 6) (Str.ofString "check_readings") [.tup (rs.map rdV)] h) = .ok .non h := by
  rw [n_check_readings]
  have hl := o.len
  have lc : eX (GA (l + 5)) x_check_readings_1 [some (.tup (rs.map rdV)), none] h = .ok (.ref h.length) (h ++ [.lst (rs.map fun _ => .bl true)]) := by
    refine eX_lc (xs := rs) (enc := rdV) (g := []) (by rw [eit_seq, var0 (w := .tup (rs.map rdV)) rfl, bind_ok, src_tup]) heldOk_nil (sz (by omega)) fun r hr => ⟨_, rfl, fun u => ?_⟩
    exact call0 (var0 rfl) (c_is_reading (o.all_ r hr) l _)
  have s1 : eS (GA (l + 5)) (.ife (.or (.not (.bi .isinst (.cons (.var 0) (.cons (.cst (.ty "tuple")) .nil)))) (.or (.not (.gc (.bi .all (.cons x_check_readings_1 .nil)))) (.not (.call 18 (Str.ofString "are_few") (.cons (.var 0) .nil))))) (.cons .never .nil) .nil) [some (.tup (rs.map rdV)), none] h = .ok (.nx [some (.tup (rs.map rdV)), none]) h := by
    refine ife_no (or_ff ?_ (or_ff ?_ ?_))
    · rw [ex_not, ex_bi_of (by rw [exs_cons, var0 (w := .tup (rs.map rdV)) rfl, bind_ok, exs_cons, ex_cst, bind_ok, exs_nil, bind_ok, bind_ok]) bi_tup]
      rfl
    · rw [ex_not, ex_gc, ex_bi_of (by rw [exs_cons, lc, bind_ok, exs_nil, bind_ok]) (all_mid (t := []) rs), gc2_bl, truR_bl, bind_ok]
      rfl
    · rw [ex_not, call0 (var0 rfl) (c_are_few o (l + 3) h), truR_bl, bind_ok]
      rfl
  show gcR h (handed (eSs (GA (l + 5)) (.cons _ .nil) _ h)) = _
  rw [one_nx s1, handed_nx]
  exact gc1_non
theorem c_sources {rs : List Rd} (o : FewOk rs) (l : Nat) (h : Hm) : gcR h (CC (l + 7) (Str.ofString "sources") [.tup (rs.map rdV)] h) = .ok (.tup ((srcs rs).map .str)) h := by
  rw [n_sources]
  have hl := o.len
  have s1 : eS (GA (l + 6)) (.expr (.call 19 (Str.ofString "check_readings") (.cons (.var 0) .nil))) [some (.tup (rs.map rdV))] h = .ok (.nx [some (.tup (rs.map rdV))]) h := by
    rw [es_expr, call0 (var0 rfl) (c_check_readings o l h), bind_ok]
  have s2 : eS (GA (l + 6)) (.ret (.gc (.bi .tuple (.cons (.call 16 (Str.ofString "sources_of") (.cons (.var 0) .nil)) .nil)))) [some (.tup (rs.map rdV))] h = .ok (.rt (.tup ((srcs rs).map .str))) h := by
    refine retg ?_
    rw [ex_gc, ex_bi_of (by rw [exs_cons, call0 (var0 rfl) (c_sources_of (by omega) (l + 5) h), bind_ok, exs_nil, bind_ok]) (tup_mid (t := []))]
    exact gcR_tail (pures_map (fun _ => rfl) _)
  show gcR h (handed (eSs (GA (l + 6)) (.cons _ (.cons _ .nil)) _ h)) = _
  rw [seq_nx s1, seq_rt s2, handed_rt]
  exact gcR_same (pures_map (fun _ => rfl) _)
end Vy
set_option maxHeartbeats 4000000
namespace Vy
open PySem
def topF (p q : Int) (P : Mr.Pt) : Int := p * P.1.1 * P.2.2 + q * P.2.1 * P.1.2
def botF (P : Mr.Pt) : Int := P.1.2 * P.2.2
theorem q6_sz {m : Nat} {x : Mr.Fr} (h : Q6 m x) (hm : m ≤ 1000) : Ra.Sz 20 x := by
  refine ⟨h.z, Nat.le_trans h.a (Nat.le_trans hm (by decide)), ?_⟩
  have := Int.le_of_dvd (by decide) h.d
  have z := h.z
  have : x.2.natAbs ≤ 6 := by omega
  exact Nat.le_trans this (by decide)
theorem q6_fr {m : Nat} {x : Mr.Fr} (h : Q6 m x) : Mr.isFr x = true := by
  unfold Mr.isFr
  rw [posI_eq, h.g, decide_eq_true h.z]
  rfl
theorem q6_pt {m : Nat} {P : Mr.Pt} (h : Q6P m P) : Mr.isPt P = true := by
  unfold Mr.isPt
  rw [q6_fr h.a, q6_fr h.b]
  rfl
theorem small9 {i : Int} (h : i.natAbs ≤ 9) : Ra.Sz 20 (i, 1) := ⟨Int.zero_lt_one, Nat.le_trans h (by decide), (by decide : (1 : Int).natAbs ≤ 2 ^ 20)⟩
theorem small4 {i : Int} (h : i.natAbs ≤ 9999) : Ra.Sz 20 (i, 1) := ⟨Int.zero_lt_one, Nat.le_trans h (by decide), (by decide : (1 : Int).natAbs ≤ 2 ^ 20)⟩
theorem value_some {m : Nat} {P : Mr.Pt} (h : Q6P m P) (hm : m ≤ 1000) {p q : Int} (hp : p.natAbs ≤ 9) (hq : q.natAbs ≤ 9) :
    ∃ a b z, Mr.timesO (p, 1) P.1 = some a ∧ Mr.timesO (q, 1) P.2 = some b ∧ Mr.plusO a b = some z ∧ Ra.Sz 100 z ∧ Ra.val z = (topF p q P : Rat) / (botF P : Rat) := by
  obtain ⟨a, e1, s1, v1⟩ := Ra.timesO_some (small9 hp) (q6_sz h.a hm) (by omega)
  obtain ⟨b, e2, s2, v2⟩ := Ra.timesO_some (small9 hq) (q6_sz h.b hm) (by omega)
  obtain ⟨z, e3, s3, v3⟩ := Ra.plusO_some s1 s2 (by omega)
  refine ⟨a, b, z, e1, e2, e3, s3.up (by omega), ?_⟩
  rw [v3, v1, v2]
  unfold topF botF Ra.val
  rw [Rat.intCast_add, Rat.intCast_mul, Rat.intCast_mul, Rat.intCast_mul, Rat.intCast_mul, Rat.intCast_mul]
  have n1 := Ra.pos_ne h.a.z
  have n2 := Ra.pos_ne h.b.z
  have n3 : ((1 : Int) : Rat) = 1 := rfl
  dsimp only
  rw [n3]
  grind
theorem bot_pos {m : Nat} {P : Mr.Pt} (h : Q6P m P) : 0 < botF P := Int.mul_pos h.a.z h.b.z
theorem c_value_of {P : Mr.Pt} {p q : Int} {a b z : Mr.Fr} (e1 : Mr.timesO (p, 1) P.1 = some a) (e2 : Mr.timesO (q, 1) P.2 = some b) (e3 : Mr.plusO a b = some z) (l : Nat) (h : Hm) : gcR h (CC (l + 4) (Str.ofString "value_of") [.int p, .int q, pt P] h) = .ok (fr z) h := by
  rw [n_value_of]
  simp [i_value_of, c_times e1, c_times e2, c_plus e3]
def loF (o : Option Int) (t b : Int) : Bool := match o with
  | none => true
  | some i => decide (i * b ≤ t)
def hiF (o : Option Int) (t b : Int) : Bool := match o with
  | none => true
  | some i => decide (t ≤ i * b)
def metF (r : Rd) (P : Mr.Pt) : Bool := loF r.lo (topF r.p r.q P) (botF P) && hiF r.hi (topF r.p r.q P) (botF P)
theorem below_lo {z : Mr.Fr} {t b i : Int} (hz : 0 < z.2) (hb : 0 < b) (v : Ra.val z = (t : Rat) / (b : Rat)) : decide (z.1 * ((i, 1) : Mr.Fr).2 < ((i, 1) : Mr.Fr).1 * z.2) = !decide (i * b ≤ t) := by
  have h1 := Ra.lt_val (x := z) (y := (i, 1)) hz Int.zero_lt_one
  have h2 := Ra.lt_val (x := (t, b)) (y := (i, 1)) hb Int.zero_lt_one
  have e : Ra.val (t, b) = Ra.val z := v.symm
  rw [e] at h2
  rw [Bool.eq_iff_iff]
  simp only [decide_eq_true_eq, Bool.not_eq_true', decide_eq_false_iff_not]
  rw [h1, ← h2]
  simp
theorem below_hi {z : Mr.Fr} {t b i : Int} (hz : 0 < z.2) (hb : 0 < b) (v : Ra.val z = (t : Rat) / (b : Rat)) : decide (((i, 1) : Mr.Fr).1 * z.2 < z.1 * ((i, 1) : Mr.Fr).2) = !decide (t ≤ i * b) := by
  have h1 := Ra.lt_val (x := (i, 1)) (y := z) Int.zero_lt_one hz
  have h2 := Ra.lt_val (x := (i, 1)) (y := (t, b)) Int.zero_lt_one hb
  have e : Ra.val (t, b) = Ra.val z := v.symm
  rw [e] at h2
  rw [Bool.eq_iff_iff]
  simp only [decide_eq_true_eq, Bool.not_eq_true', decide_eq_false_iff_not]
  rw [h1, ← h2]
  simp
theorem sh_at {h : Hm} {s : List Mr.Pt} {k : Nat} {P : Mr.Pt} (e : s[k]? = some P) : idxV (sh s) (.int (k : Nat)) h = .ok (pt P) h := by
  refine ix_tup (atI_nat ?_)
  rw [List.getElem?_map, e]
  rfl
theorem slc_rd {h : Hm} {r : Rd} : slcV (some (-4)) none (rdV r) h = .ok (.tup [.int r.p, .int r.q, ob r.lo, ob r.hi]) h := rfl
theorem c_is_met_at {r : Rd} (o : RdOk r) {s : List Mr.Pt} {P : Mr.Pt} {m : Nat} (e : s[r.ax]? = some P) (hP : Q6P m P) (hm : m ≤ 1000) (l : Nat) (h : Hm) : gcR h (CC (l + 5) (Str.ofString "is_met_at") [rdV r, sh s] h) = .ok (.bl (metF r P)) h := by
  rw [n_is_met_at]
  obtain ⟨a, b, z, e1, e2, e3, sz1, v⟩ := value_some hP hm o.p o.q
  have bp := bot_pos hP
  have cv := c_value_of e1 e2 e3 l h
  have ka := sh_at (h := h) e
  have it : ∀ x y : Va, itemsV h (.tup [.int r.p, .int r.q, x, y]) = some [.int r.p, .int r.q, x, y] := fun _ _ => rfl
  have hb := o.bds
  have k1 : ∀ i, r.lo = some i → gcR h (CC (l + 4) (Str.ofString "is_below") [fr z, fr (i, 1)] h) = .ok (.bl (!decide (i * botF P ≤ topF r.p r.q P))) h := fun i hi => by
    rw [c_is_below (Ra.belowO_some sz1 (small4 (hb.klo.b i hi)) (by omega)) (l + 3) h, below_lo sz1.z bp v]
  have k2 : ∀ i, r.hi = some i → gcR h (CC (l + 4) (Str.ofString "is_below") [fr (i, 1), fr z] h) = .ok (.bl (!decide (topF r.p r.q P ≤ i * botF P))) h := fun i hi => by
    rw [c_is_below (Ra.belowO_some (small4 (hb.khi.b i hi)) sz1 (by omega)) (l + 3) h, below_hi sz1.z bp v]
  have o0 : ∀ (i : Int) (G : Hm), cmpP G .isnot (.int i) .non = some true := fun _ _ => rfl
  unfold metF
  cases hlo : r.lo with
  | none =>
    cases hhi : r.hi with
    | none => exact (hb.one hlo hhi).elim
    | some j =>
      have k2 := k2 j hhi
      simp [i_is_met_at, ix_rd1, slc_rd, it, hlo, hhi, ob, ka, cv, k2, loF, hiF, sizeLine]
  | some i =>
    have k1 := k1 i hlo
    by_cases c1 : i * botF P ≤ topF r.p r.q P
    · cases hhi : r.hi with
      | none =>
        simp [i_is_met_at, ix_rd1, slc_rd, it, hlo, hhi, ob, ka, cv, k1, c1, loF, hiF, sizeLine]
      | some j =>
        have k2 := k2 j hhi
        simp [i_is_met_at, ix_rd1, slc_rd, it, hlo, hhi, ob, ka, cv, k1, k2, c1, loF, hiF, sizeLine]
    · cases hhi : r.hi with
      | none =>
        simp [i_is_met_at, ix_rd1, slc_rd, it, hlo, hhi, ob, ka, cv, k1, c1, loF, hiF, sizeLine]
      | some j =>
        simp [i_is_met_at, ix_rd1, slc_rd, it, hlo, hhi, ob, ka, cv, k1, c1, loF, hiF, sizeLine]
end Vy
set_option maxHeartbeats 4000000
namespace Vy
open PySem
theorem cut_map {α β : Type} (f : α → β) (xs : List α) (lo hi : Option Int) : cutL (xs.map f) lo hi = (cutL xs lo hi).map f := by
  simp [cutL, List.map_take, List.map_drop]
theorem cut_sub {α : Type} {xs : List α} {lo hi : Option Int} : ∀ x ∈ cutL xs lo hi, x ∈ xs := fun x hx => List.mem_of_mem_drop (List.mem_of_mem_take hx)
theorem cut_len {α : Type} {xs : List α} {lo hi : Option Int} : (cutL xs lo hi).length ≤ xs.length := by
  simp only [cutL, List.length_take, List.length_drop]
  omega
structure StOk (m w : Nat) (S : List (List Mr.Pt)) : Prop where
  w0 : 1 ≤ w
  w3 : w ≤ 3
  n0 : 1 ≤ S.length
  n5 : S.length ≤ 13
  wid : ∀ s ∈ S, s.length = w
  pts : ∀ s ∈ S, ∀ P ∈ s, Q6P m P
  hm : m ≤ 1000
def metS (r : Rd) (s : List Mr.Pt) : Bool := match s[r.ax]? with
  | some P => metF r P
  | none => false
def fulf (r : Rd) (S : List (List Mr.Pt)) : Bool := (cutL S (some (r.fi : Nat)) (some ((r.la : Nat) + 1))).any (metS r)
theorem pures_sh (S : List (List Mr.Pt)) : Va.pures (S.map sh) = true := pures_map (fun _ => pure_sh) S
theorem at_ax {m w : Nat} {S : List (List Mr.Pt)} (k : StOk m w S) {r : Rd} (ha : r.ax < w) {s : List Mr.Pt} (hs : s ∈ S) : ∃ P, s[r.ax]? = some P ∧ Q6P m P := by
  have hl := k.wid s hs
  have lt : r.ax < s.length := by omega
  exact ⟨s[r.ax], List.getElem?_eq_getElem lt, k.pts s hs _ (List.getElem_mem lt)⟩
theorem c_is_fulfilled {r : Rd} (o : RdOk r) {m w : Nat} {S : List (List Mr.Pt)} (k : StOk m w S) (ha : r.ax < w) (l : Nat) (h : Hm) : gcR h (CC (l + 6) (Str.ofString "is_fulfilled") [rdV r, .tup (S.map sh)] h) = .ok (.bl (fulf r S)) h := by
  rw [n_is_fulfilled]
  have n5 := k.n5
  have src : eIt (GA (l + 5)) (.seq (.slc (.var 1) (.some (.idx (.var 0) (.glob 13 (Str.ofString "PAIR_readings")))) (.some (.bin .add (.idx (.var 0) (.bin .add (.glob 13 (Str.ofString "PAIR_readings")) (.cst (.int 1)))) (.cst (.int 1)))))) [some (rdV r), some (.tup (S.map sh)), none] h = .ok ⟨(cutL S (some (r.fi : Nat)) (some ((r.la : Nat) + 1))).map sh, []⟩ h := by
    have sl : slcV (some ((r.fi : Nat) : Int)) (some ((r.la : Nat) + 1)) (.tup (S.map sh)) h = .ok (.tup ((cutL S (some (r.fi : Nat)) (some ((r.la : Nat) + 1))).map sh)) h := by
      rw [← cut_map]
      rfl
    simp [ix_rd2, ix_rd3, sl]
  have lc : eX (GA (l + 5)) x_is_fulfilled_1 [some (rdV r), some (.tup (S.map sh)), none] h = .ok (.ref h.length) (h ++ [.lst ((cutL S (some (r.fi : Nat)) (some ((r.la : Nat) + 1))).map fun s => .bl (metS r s))]) := by
    refine eX_lc (xs := cutL S (some (r.fi : Nat)) (some ((r.la : Nat) + 1))) (enc := sh) (g := []) src heldOk_nil (sz (Nat.le_trans cut_len (by omega))) fun s hs => ⟨[some (rdV r), some (.tup (S.map sh)), some (sh s)], rfl, fun u => ?_⟩
    obtain ⟨P, e1, q⟩ := at_ax k ha (cut_sub s hs)
    have : metS r s = metF r P := by unfold metS; rw [e1]
    rw [this]
    exact call2 (var0 (w := rdV r) rfl) (var0 (w := sh s) rfl) (c_is_met_at o e1 q k.hm l _)
  have s2 : eS (GA (l + 5)) (.ret (.gc (.bi .any (.cons x_is_fulfilled_1 .nil)))) [some (rdV r), some (.tup (S.map sh)), none] h = .ok (.rt (.bl (fulf r S))) h := by
    refine retg ?_
    rw [ex_gc, ex_bi_of (by rw [exs_cons, lc, bind_ok, exs_nil, bind_ok]) (any_end _ (metS r))]
    exact gc2_bl
  show gcR h (handed (eSs (GA (l + 5)) (.cons _ .nil) _ h)) = _
  rw [seq_rt s2, handed_rt]
  exact gc1_bl
theorem c_is_state {m w : Nat} {S : List (List Mr.Pt)} (k : StOk m w S) {s : List Mr.Pt} (hs : s ∈ S) (l : Nat) (h : Hm) : gcR h (CC (l + 4) (Str.ofString "is_state") [sh s, .int 1, .int 3] h) = .ok (.bl true) h := by
  rw [n_is_state]
  have hl := k.wid s hs
  have w0 := k.w0
  have w3 := k.w3
  have k1 := c_is_tuple (s.map pt) 1 3 (l + 2) h
  rw [List.length_map, decide_eq_true (by omega), decide_eq_true (by omega)] at k1
  have lc : eX (GA (l + 3)) x_is_state_1 [some (sh s), some (.int 1), some (.int 3), none] h = .ok (.ref h.length) (h ++ [.lst (s.map fun _ => .bl true)]) := by
    refine eX_lc (xs := s) (enc := pt) (g := []) (by rw [eit_seq, var0 (w := sh s) rfl, bind_ok, src_sh]) heldOk_nil (sz (by omega)) fun P hP => ⟨[some (sh s), some (.int 1), some (.int 3), some (pt P)], rfl, fun u => ?_⟩
    have := c_is_point (p := P) l (h ++ u)
    rw [q6_pt (k.pts s hs P hP)] at this
    exact call0 (var0 rfl) this
  have s2 : eS (GA (l + 3)) (.ret (.and (.call 2 (Str.ofString "is_tuple") (.cons (.var 0) (.cons (.var 1) (.cons (.var 2) .nil)))) (.gc (.bi .all (.cons x_is_state_1 .nil))))) [some (sh s), some (.int 1), some (.int 3), none] h = .ok (.rt (.bl true)) h := by
    refine retg ?_
    have al : eX (GA (l + 3)) (.gc (.bi .all (.cons x_is_state_1 .nil))) [some (sh s), some (.int 1), some (.int 3), none] h = .ok (.bl true) h := by
      rw [ex_gc, ex_bi_of (by rw [exs_cons, lc, bind_ok, exs_nil, bind_ok]) (all_mid (t := []) s)]
      exact gc2_bl
    have c1 : eX (GA (l + 3)) (.call 2 (Str.ofString "is_tuple") (.cons (.var 0) (.cons (.var 1) (.cons (.var 2) .nil)))) [some (sh s), some (.int 1), some (.int 3), none] h = .ok (.bl true) h := by
      rw [ex_call, exs_cons, var0 (w := sh s) rfl, bind_ok, exs_cons, var0 (w := .int 1) rfl, bind_ok, exs_cons, var0 (w := .int 3) rfl, bind_ok, exs_nil, bind_ok, bind_ok, bind_ok, bind_ok]
      exact k1
    rw [ex_and, c1, bind_ok]
    exact al
  show gcR h (handed (eSs (GA (l + 3)) (.cons _ .nil) _ h)) = _
  rw [seq_rt s2, handed_rt]
  exact gc1_bl
theorem dcL_same {α : Type} {key : Sg → Hm → Res Va} {t : Tg} {σ : Sg} {h : Hm} {enc : α → Va} {k : Int} :
    ∀ (xs : List α), (∀ x ∈ xs, ∃ σ1, setT t (enc x) σ = some σ1 ∧ key σ1 h = .ok (.int k) h) →
      dcL [] t key σ (xs.map enc) [.inl k] h = .ok [.inl k] h
  | [], _ => by simp [dcL]
  | x :: xs, st => by
    obtain ⟨σ1, e1, e2⟩ := st x List.mem_cons_self
    rw [List.map_cons]
    unfold dcL
    rw [if_pos heldOk_nil, e1]
    dsimp only
    rw [e2, bind_ok]
    show (if _ then _ else _) = _
    rw [if_pos (Nat.lt_of_succ_le (sz (by simp))), show addKey [Sum.inl k] (Sum.inl k) = [Sum.inl k] by simp [addKey]]
    exact dcL_same xs (fun y hy => st y (List.mem_cons_of_mem _ hy))
theorem dcL_one {α : Type} {key : Sg → Hm → Res Va} {t : Tg} {σ : Sg} {h : Hm} {enc : α → Va} {k : Int} {xs : List α} (h0 : 1 ≤ xs.length) (st : ∀ x ∈ xs, ∃ σ1, setT t (enc x) σ = some σ1 ∧ key σ1 h = .ok (.int k) h) :
      dcL [] t key σ (xs.map enc) [] h = .ok [.inl k] h := by
  match xs, h0, st with
  | x :: xs, _, st =>
    obtain ⟨σ1, e1, e2⟩ := st x List.mem_cons_self
    rw [List.map_cons]
    unfold dcL
    rw [if_pos heldOk_nil, e1]
    dsimp only
    rw [e2, bind_ok]
    show (if _ then _ else _) = _
    rw [if_pos (Nat.lt_of_succ_le (sz (by simp))), show addKey [] (Sum.inl k) = [Sum.inl k] by simp [addKey]]
    exact dcL_same xs (fun y hy => st y (List.mem_cons_of_mem _ hy))
theorem c_check_states {r : Rd} {m w : Nat} {S : List (List Mr.Pt)} (k : StOk m w S) (ha : r.ax < w) (hla : r.la < S.length) (l : Nat) (h : Hm) : gcR h (CC (l + 5) (Str.ofString "check_states") [rdV r, .tup (S.map sh)] h) = .ok .non h := by
  rw [n_check_states]
  have n0 := k.n0
  have n5 := k.n5
  have k1 := c_is_tuple (S.map sh) 1 13 (l + 3) h
  rw [List.length_map, decide_eq_true (by omega), decide_eq_true (by omega)] at k1
  have lc : eX (GA (l + 4)) x_check_states_1 [some (rdV r), some (.tup (S.map sh)), none] h = .ok (.ref h.length) (h ++ [.lst (S.map fun _ => .bl true)]) := by
    refine eX_lc (xs := S) (enc := sh) (g := []) (by rw [eit_seq, var0 (w := .tup (S.map sh)) rfl, bind_ok, src_tup]) heldOk_nil (sz (by omega)) fun s hs => ⟨[some (rdV r), some (.tup (S.map sh)), some (sh s)], rfl, fun u => ?_⟩
    rw [ex_call, exs_cons, var0 (w := sh s) rfl, bind_ok, exs_cons, ex_cst, bind_ok, exs_cons, ex_glob, v_MOST_AXES, ofO_some, bind_ok, exs_nil, bind_ok, bind_ok, bind_ok, bind_ok]
    exact c_is_state k hs l _
  have ld : eX (GA (l + 4)) x_check_states_2 [some (rdV r), some (.tup (S.map sh)), none] h = .ok (.int 1) h := by
    unfold x_check_states_2
    rw [ex_ldi, eit_seq, var0 (w := .tup (S.map sh)) rfl, bind_ok, src_tup]
    dsimp only
    rw [bind_ok, show wipeS [some (rdV r), some (.tup (S.map sh)), none] [2] = [some (rdV r), some (.tup (S.map sh)), none] from rfl]
    rw [dcL_one (key := fun σ1 h2 => eX (GA (l + 4)) (.bi .len (.cons (.var 2) .nil)) σ1 h2) (t := .nm 2) (enc := sh) (k := w) n0 fun s hs => ⟨[some (rdV r), some (.tup (S.map sh)), some (sh s)], rfl, ex_bi_of (by rw [exs_cons, var0 (w := sh s) rfl, bind_ok, exs_nil, bind_ok]) (by rw [len_sh, k.wid s hs])⟩, bind_ok]
    rfl
  have s1 : eS (GA (l + 4)) (.ife (.or (.not (.call 2 (Str.ofString "is_tuple") (.cons (.var 1) (.cons (.cst (.int 1)) (.cons (.glob 4 (Str.ofString "MOST_TICKS")) .nil))))) (.not (.gc (.bi .all (.cons x_check_states_1 .nil))))) (.cons .never .nil) .nil) [some (rdV r), some (.tup (S.map sh)), none] h = .ok (.nx [some (rdV r), some (.tup (S.map sh)), none]) h := by
    refine ife_no (or_ff ?_ ?_)
    · rw [ex_not, ex_call, exs_cons, var0 (w := .tup (S.map sh)) rfl, bind_ok, exs_cons, ex_cst, bind_ok, exs_cons, ex_glob, v_MOST_TICKS, ofO_some, bind_ok, exs_nil, bind_ok, bind_ok, bind_ok, bind_ok, GA_call, k1]
      rfl
    · rw [ex_not, ex_gc, ex_bi_of (by rw [exs_cons, lc, bind_ok, exs_nil, bind_ok]) (all_mid (t := []) S), gc2_bl]
      rfl
  obtain ⟨s0, S', eS0⟩ : ∃ s S', S = s :: S' := by
    cases S with
    | nil => simp at n0
    | cons a b => exact ⟨a, b, rfl⟩
  have hw : s0.length = w := k.wid s0 (by rw [eS0]; exact List.mem_cons_self)
  have ix0 : idxV (.tup (S.map sh)) (.int 0) h = .ok (sh s0) h := by
    rw [eS0]
    exact ix_0
  have s2 : eS (GA (l + 4)) (.ife (.or (.cmp .gt x_check_states_2 (.cst (.int 1))) (.or (.cmp .le (.bi .len (.cons (.var 1) .nil)) (.idx (.var 0) (.bin .add (.glob 13 (Str.ofString "PAIR_readings")) (.cst (.int 1))))) (.cmp .le (.bi .len (.cons (.idx (.var 1) (.cst (.int 0))) .nil)) (.idx (.var 0) (.cst (.int 1)))))) (.cons .never .nil) .nil) [some (rdV r), some (.tup (S.map sh)), none] h = .ok (.nx [some (rdV r), some (.tup (S.map sh)), none]) h := by
    refine ife_no (or_ff ?_ (or_ff ?_ ?_))
    · rw [ex_cmp, ld, bind_ok, ex_cst, bind_ok, q_gt]
      rfl
    · have : ¬ (S.length : Int) ≤ (r.la : Nat) := by omega
      simp [ix_rd3, this]
    · have : ¬ (s0.length : Int) ≤ (r.ax : Nat) := by omega
      simp [ix_rd1, ix0, this]
  show gcR h (handed (eSs (GA (l + 4)) (.cons _ (.cons _ .nil)) _ h)) = _
  rw [seq_nx s1, one_nx s2, handed_nx]
  exact gc1_non
theorem c_fulfils {r : Rd} (o : RdOk r) {m w : Nat} {S : List (List Mr.Pt)} (k : StOk m w S) (ha : r.ax < w) (hla : r.la < S.length) (l : Nat) (h : Hm) : gcR h (CC (l + 7) (Str.ofString "fulfils") [rdV r, .tup (S.map sh)] h) = .ok (.bl (fulf r S)) h := by
  rw [n_fulfils]
  have s1 : eS (GA (l + 6)) (.expr (.call 15 (Str.ofString "check_reading") (.cons (.var 0) .nil))) [some (rdV r), some (.tup (S.map sh))] h = .ok (.nx [some (rdV r), some (.tup (S.map sh))]) h := by
    rw [es_expr, call0 (var0 rfl) (c_check_reading o l h), bind_ok]
  have s2 : eS (GA (l + 6)) (.expr (.call 24 (Str.ofString "check_states") (.cons (.var 0) (.cons (.var 1) .nil)))) [some (rdV r), some (.tup (S.map sh))] h = .ok (.nx [some (rdV r), some (.tup (S.map sh))]) h := by
    rw [es_expr, call2 (var0 rfl) (var0 rfl) (c_check_states k ha hla (l + 1) h), bind_ok]
  have s3 : eS (GA (l + 6)) (.ret (.call 22 (Str.ofString "is_fulfilled") (.cons (.var 0) (.cons (.var 1) .nil)))) [some (rdV r), some (.tup (S.map sh))] h = .ok (.rt (.bl (fulf r S))) h :=
    retg (call2 (var0 rfl) (var0 rfl) (c_is_fulfilled o k ha l h))
  show gcR h (handed (eSs (GA (l + 6)) (.cons _ (.cons _ (.cons _ .nil))) _ h)) = _
  rw [seq_nx s1, seq_nx s2, seq_rt s3, handed_rt]
  exact gc1_bl
end Vy
set_option maxHeartbeats 4000000
namespace Vy
open PySem
/-- a tuple of a comprehension whose elements draw -/
theorem lc_pot {β : Type} {B m : Nat} {Γ : Ev} {own : List Nat} {elt : Xp} {t : Tg} {it : It'} {σ : Sg} {enc : β → Va} {Q : β → Prop} {p n : Nat} {H : Hm} {ws : List Va}
    (src : eIt Γ it σ H = .ok ⟨ws, []⟩ H) (P : Pot H p n) (hB : n + m * ws.length ≤ B) (hl : ws.length ≤ 1000) (pu : ∀ y, (enc y).pure = true)
    (st : ∀ w ∈ ws, ∃ σ1, setT t w (wipeS σ own) = some σ1 ∧ ∀ G k, Pot G p k → k ≤ B → ∃ y G', Q y ∧ eX Γ elt σ1 G = .ok (enc y) G' ∧ Upd G G' p ∧ Pot G' p (k + m)) :
    ∃ (ys : List β) (H' : Hm), ys.length = ws.length ∧ (∀ y ∈ ys, Q y) ∧ eX Γ (.gc (.bi .tuple (.cons (.lc own elt t it .none) .nil))) σ H = .ok (.tup (ys.map enc)) H' ∧ Upd H H' p ∧ Pot H' p (n + m * ws.length) := by
  obtain ⟨ys, H', h1, h2, h3, h4, h5⟩ := compL_pot (B := B) (m := m) (t := t) (test := fun σ1 h2 => eIf Γ .none σ1 h2) (elt := fun σ1 h2 => eX Γ elt σ1 h2) (σ := wipeS σ own) (enc := enc) (Q := Q) (p := p) (fun _ _ => eif_none) ws H n [] P hB (sz (by simpa using (by omega : ws.length ≤ 1000000))) st
  refine ⟨ys, H', h1, h2, ?_, h4, h5⟩
  have e1 : eX Γ (.lc own elt t it .none) σ H = .ok (.ref H.length) (H' ++ [.lst (ys.map enc)]) := by
    unfold eX
    rw [src, bind_ok]
    dsimp only
    rw [List.map_nil, List.nil_append] at h3
    rw [h3, bind_ok]
  have t1 : biV .tuple [.ref H.length] (H' ++ [.lst (ys.map enc)]) = .ok (.tup (ys.map enc)) (H' ++ [.lst (ys.map enc)]) := by
    rw [← h4.len]
    exact tup_end
  rw [ex_gc, ex_bi_of (by rw [exs_cons, e1, bind_ok, exs_nil, bind_ok]) t1]
  exact h4.gc (pures_map pu ys)
theorem callg1 {l k : Nat} {f : Str} {a : Xp} {w r : Va} {σ : Sg} {H G L : Hm} (ha : eX (GA l) a σ H = .ok w G) (k1 : gcR G (CC l f [w] G) = .ok r L) : eX (GA l) (.call k f (.cons a .nil)) σ H = .ok r L := by
  rw [ex_call, exs_cons, ha, bind_ok, exs_nil, bind_ok, bind_ok, GA_call, k1]
theorem callg2 {l k : Nat} {f : Str} {a b : Xp} {w x r : Va} {σ : Sg} {H G K L : Hm} (ha : eX (GA l) a σ H = .ok w G) (hb : eX (GA l) b σ G = .ok x K) (k1 : gcR K (CC l f [w, x] K) = .ok r L) : eX (GA l) (.call k f (.cons a (.cons b .nil))) σ H = .ok r L := by
  rw [ex_call, exs_cons, ha, bind_ok, exs_cons, hb, bind_ok, exs_nil, bind_ok, bind_ok, bind_ok, GA_call, k1]
theorem callg3 {l k : Nat} {f : Str} {a b c : Xp} {w x y r : Va} {σ : Sg} {H G K J L : Hm} (ha : eX (GA l) a σ H = .ok w G) (hb : eX (GA l) b σ G = .ok x K) (hc : eX (GA l) c σ K = .ok y J) (k1 : gcR J (CC l f [w, x, y] J) = .ok r L) : eX (GA l) (.call k f (.cons a (.cons b (.cons c .nil)))) σ H = .ok r L := by
  rw [ex_call, exs_cons, ha, bind_ok, exs_cons, hb, bind_ok, exs_cons, hc, bind_ok, exs_nil, bind_ok, bind_ok, bind_ok, bind_ok, GA_call, k1]
theorem ixv {Γ : Ev} {σ : Sg} {H G K : Hm} {a b : Xp} {w x : Va} {k : Int} (ha : eX Γ a σ H = .ok w G) (hb : eX Γ b σ G = .ok (.int k) K) (e : idxV w (.int k) K = .ok x K) : eX Γ (.idx a b) σ H = .ok x K := by rw [ex_idx, ha, bind_ok, hb, bind_ok, e]
theorem fdivg {Γ : Ev} {σ : Sg} {H G K : Hm} {a b : Xp} {i j : Int} (ha : eX Γ a σ H = .ok (.int i) G) (hb : eX Γ b σ G = .ok (.int j) K) (m : divOk i j) : eX Γ (.bin .fdiv a b) σ H = .ok (.int (i.fdiv j)) K := by rw [ex_bin, ha, bind_ok, hb, bind_ok, b_fdiv m]
/-- a take with a number -/
theorem c_takeN {H : Hm} {p n : Nat} {up : Nat} (P : Pot H p n) (hn : n ≤ 1000000) (u0 : 0 < up) (u1 : up ≤ 1000000000) (l : Nat) :
    ∃ (d : Nat) (H' : Hm), d < up ∧ gcR H (CC (l + 1) (Str.ofString "_law_take") [.ref p, .int (up : Nat)] H) = .ok (.int (d : Nat)) H' ∧ Upd H H' p ∧ Pot H' p (n + 1) := by
  obtain ⟨d, H', d0, d1, k, U, P'⟩ := c_take P hn (up := (up : Int)) (by omega) (by omega) l
  obtain ⟨e, rfl⟩ := Int.eq_ofNat_of_zero_le d0
  exact ⟨e, H', by omega, k, U, P'⟩
theorem c_drawn_fraction {H : Hm} {p n : Nat} (P : Pot H p n) (hn : n ≤ 800000) {w : Int} (w0 : 1 ≤ w) (w1 : w ≤ 4) (l : Nat) :
    ∃ (x : Mr.Fr) (G : Hm), Q6 12 x ∧ gcR H (CC (l + 3) (Str.ofString "_law_drawn_fraction") [.ref p, .int w] H) = .ok (fr x) G ∧ Upd H G p ∧ Pot G p (n + 2) := by
  obtain ⟨d, H1, d0, d1, k1, U1, P1⟩ := c_take P (by omega) (up := 6 * w + 1) (by omega) (by omega) (l + 1)
  obtain ⟨v, H2, hv, k2, U2, P2⟩ := of_new (Γ := GA (l + 2)) (k := 29) (es := .cons (.cst (.int 1)) (.cons (.cst (.int 1)) (.cons (.cst (.int 2)) (.cons (.cst (.int 3)) .nil)))) (ws := [.int 1, .int 1, .int 2, .int 3]) (σ := [some (.ref p), some (.int w)]) rfl P1 (by omega) (xs1 ex_cst (xs1 ex_cst (xs1 ex_cst (xs1 ex_cst xs0)))) (by intro w hw; simp at hw; rcases hw with rfl | rfl | rfl | rfl <;> rfl) (by simp) (by simp)
  obtain ⟨b, rfl, b0, b3, b6⟩ : ∃ b : Int, v = .int b ∧ 0 < b ∧ b ≤ 3 ∧ b ∣ 6 := by
    simp at hv
    rcases hv with rfl | rfl | rfl
    · exact ⟨1, rfl, by decide, by decide, by decide⟩
    · exact ⟨2, rfl, by decide, by decide, by decide⟩
    · exact ⟨3, rfl, by decide, by decide, by decide⟩
  have U := U1.trans U2
  refine ⟨Hs.nrm (d - 3 * w) b, H2, q6_nrm b0 b6 (by omega), ?_, U, P2⟩
  rw [n__law_drawn_fraction]
  have m1 : mulOk 6 w := mp (k := 10) (m := 10) (by decide) (by omega) (by omega) (by omega)
  have m2 : mulOk 3 w := mp (k := 10) (m := 10) (by decide) (by omega) (by omega) (by omega)
  have s : eS (GA (l + 2)) (.ret (.call 32 (Str.ofString "_law_fraction") (.cons (.bin .sub (.call 28 (Str.ofString "_law_take") (.cons (.var 0) (.cons (.bin .add (.bin .mul (.cst (.int 6)) (.var 1)) (.cst (.int 1))) .nil))) (.bin .mul (.cst (.int 3)) (.var 1))) (.cons (.gc (.call 29 (Str.ofString "_law_of") (.cons (.var 0) (.cons (.lst (.cons (.cst (.int 1)) (.cons (.cst (.int 1)) (.cons (.cst (.int 2)) (.cons (.cst (.int 3)) .nil))))) .nil)))) .nil)))) [some (.ref p), some (.int w)] H = .ok (.rt (fr (Hs.nrm (d - 3 * w) b))) H2 := by
    refine retg (callg2 (subg (G := H1) ?_ (mulg ex_cst (var0 rfl) m2)) k2 (c_law_fraction b0 (md_of (by omega)) l H2))
    exact take_e rfl (addg (mulg ex_cst (var0 rfl) m1) ex_cst) k1
  show gcR H (handed (eSs (GA (l + 2)) (.cons _ .nil) _ H)) = _
  rw [seq_rt s, handed_rt]
  exact U.gc0 rfl
theorem row_states {H : Hm} {p n : Nat} (P : Pot H p n) (hn : n ≤ 700000) {x1 : Option Va} {w : Nat} (hw : w ≤ 3) {x3 x4 : Option Va} (l : Nat) :
    ∃ (s : List Mr.Pt) (G : Hm), (s.length = w ∧ ∀ y ∈ s, Q6P 12 y) ∧ eX (GA (l + 3)) (.gc (.bi .tuple (.cons x__law_drawn_states_2 .nil))) [some (.ref p), x1, some (.int (w : Int)), x3, x4] H = .ok (sh s) G ∧ Upd H G p ∧ Pot G p (n + 12) := by
  obtain ⟨s, G, h1, h2, h3, h4, h5⟩ := lc_pot (B := 750000) (m := 4) (Γ := GA (l + 3)) (own := [4]) (elt := .tup (.cons (.call 33 (Str.ofString "_law_drawn_fraction") (.cons (.var 0) (.cons (.cst (.int 4)) .nil))) (.cons (.call 33 (Str.ofString "_law_drawn_fraction") (.cons (.var 0) (.cons (.cst (.int 2)) .nil))) .nil))) (t := .nm 4) (it := .of .rng (.cons (.var 2) .nil)) (σ := [some (.ref p), x1, some (.int (w : Int)), x3, x4]) (enc := pt) (Q := Q6P 12) (p := p) (n := n) (H := H) (ws := rng1L (w : Int))
    (by
      have e : eXs (GA (l + 3)) (.cons (.var 2) .nil) [some (.ref p), x1, some (.int (w : Int)), x3, x4] H = .ok [.int (w : Int)] H := xs1 (var0 rfl) xs0
      rw [eit_of, e, bind_ok, iter_rng1 (by omega)]) P (by simp [rng1L]; omega) (by simp [rng1L]; omega) (fun _ => rfl) fun v hv => ⟨[some (.ref p), x1, some (.int (w : Int)), x3, some v], rfl, fun G k PG hk => by
      obtain ⟨x, G1, qx, e1, U1, P1⟩ := c_drawn_fraction PG (by omega) (w := 4) (by decide) (by decide) l
      obtain ⟨y, G2, qy, e2, U2, P2⟩ := c_drawn_fraction P1 (by omega) (w := 2) (by decide) (by decide) l
      exact ⟨(x, y), G2, ⟨qx, qy⟩, tupg (xs1 (callg2 (var0 rfl) ex_cst e1) (xs1 (callg2 (var0 rfl) ex_cst e2) xs0)) (by simp), U1.trans U2, P2⟩⟩
  have hl : (rng1L (w : Int)).length = w := by simp [rng1L]
  rw [hl] at h1 h5
  exact ⟨s, G, ⟨h1, h2⟩, h3, h4, h5.mono (by omega)⟩
theorem c_drawn_states {H : Hm} {p n : Nat} (P : Pot H p n) (hn : n ≤ 600000) {k w : Nat} (k0 : 1 ≤ k) (hk : k ≤ 5) (w0 : 1 ≤ w) (hw : w ≤ 3) (l : Nat) :
    ∃ (S : List (List Mr.Pt)) (G : Hm), StOk 12 w S ∧ S.length = k ∧ gcR H (CC (l + 4) (Str.ofString "_law_drawn_states") [.ref p, .int (k : Int), .int (w : Int)] H) = .ok (.tup (S.map sh)) G ∧ Upd H G p ∧ Pot G p (n + 60) := by
  obtain ⟨S, G, h1, h2, h3, h4, h5⟩ := lc_pot (B := 700000) (m := 12) (Γ := GA (l + 3)) (own := [3]) (elt := .gc (.bi .tuple (.cons x__law_drawn_states_2 .nil))) (t := .nm 3) (it := .of .rng (.cons (.var 1) .nil)) (σ := [some (.ref p), some (.int (k : Int)), some (.int (w : Int)), none, none]) (enc := sh) (Q := fun s => s.length = w ∧ ∀ y ∈ s, Q6P 12 y) (p := p) (n := n) (H := H) (ws := rng1L (k : Int))
    (by
      have e : eXs (GA (l + 3)) (.cons (.var 1) .nil) [some (.ref p), some (.int (k : Int)), some (.int (w : Int)), none, none] H = .ok [.int (k : Int)] H := xs1 (var0 rfl) xs0
      rw [eit_of, e, bind_ok, iter_rng1 (by omega)]) P (by simp [rng1L]; omega) (by simp [rng1L]; omega) (fun _ => pure_sh) fun v hv => ⟨[some (.ref p), some (.int (k : Int)), some (.int (w : Int)), some v, none], rfl, fun G j PG hj => by
      obtain ⟨s, G1, qs, e1, U1, P1⟩ := row_states PG (by omega) (x1 := some (.int (k : Int))) hw (x3 := some v) (x4 := none) l
      exact ⟨s, G1, qs, e1, U1, P1⟩⟩
  have hl : (rng1L (k : Int)).length = k := by simp [rng1L]
  rw [hl] at h1 h5
  refine ⟨S, G, ⟨w0, hw, by omega, by omega, fun s hs => (h2 s hs).1, fun s hs => (h2 s hs).2, by decide⟩, h1, ?_, h4, h5.mono (by omega)⟩
  rw [n__law_drawn_states]
  have s : eS (GA (l + 3)) (.ret (.gc (.bi .tuple (.cons x__law_drawn_states_1 .nil)))) [some (.ref p), some (.int (k : Int)), some (.int (w : Int)), none, none] H = .ok (.rt (.tup (S.map sh))) G := retg h3
  show gcR H (handed (eSs (GA (l + 3)) (.cons _ .nil) _ H)) = _
  rw [seq_rt s, handed_rt]
  exact h4.gc0 (pures_sh S)
theorem c_law_is_met {r : Rd} (o : RdOk r) {s : List Mr.Pt} {P : Mr.Pt} {m : Nat} (e : s[r.ax]? = some P) (hP : Q6P m P) (hm : m ≤ 1000) (l : Nat) (h : Hm) : gcR h (CC (l + 1) (Str.ofString "_law_is_met") [rdV r, sh s] h) = .ok (.bl (metS r s)) h := by
  have em : metS r s = metF r P := by unfold metS; rw [e]
  rw [n__law_is_met, em]
  have ka := sh_at (h := h) e
  have i4 : idxV (rdV r) (.int 4) h = .ok (.int r.p) h := ix_tup rfl
  have i5 : idxV (rdV r) (.int 5) h = .ok (.int r.q) h := ix_tup rfl
  have i6 : idxV (rdV r) (.int 6) h = .ok (ob r.lo) h := ix_tup rfl
  have i7 : idxV (rdV r) (.int 7) h = .ok (ob r.hi) h := ix_tup rfl
  have hp := o.p
  have hq := o.q
  have xa := (q6_sz hP.a hm).a
  have xb := (q6_sz hP.a hm).b
  have ya := (q6_sz hP.b hm).a
  have yb := (q6_sz hP.b hm).b
  have p4 : r.p.natAbs ≤ 2 ^ 4 := Nat.le_trans hp (by decide)
  have q4 : r.q.natAbs ≤ 2 ^ 4 := Nat.le_trans hq (by decide)
  have m1 : mulOk r.p P.1.1 := mp p4 xa (by omega) (by omega)
  have m2 : mulOk (r.p * P.1.1) P.2.2 := mp (Ra.mul_pow p4 xa) yb (by omega) (by omega)
  have m3 : mulOk r.q P.2.1 := mp q4 ya (by omega) (by omega)
  have m4 : mulOk (r.q * P.2.1) P.1.2 := mp (Ra.mul_pow q4 ya) xb (by omega) (by omega)
  have m5 : mulOk P.1.2 P.2.2 := mp xb yb (by omega) (by omega)
  have hb := o.bds
  have m6 : ∀ i, i.natAbs ≤ 9999 → mulOk i (botF P) := fun i hi => mp (k := 20) (Nat.le_trans hi (by decide)) (Ra.mul_pow xb yb) (by omega) (by omega)
  have et : r.p * P.1.1 * P.2.2 + r.q * P.2.1 * P.1.2 = topF r.p r.q P := rfl
  have eb : P.1.2 * P.2.2 = botF P := rfl
  have sp : ∀ (t1 t2 t3 t4 : Tg) (σ : Sg), setT (.tup [.tup [t1, t2], .tup [t3, t4]]) (pt P) σ = setTs [.tup [t1, t2], .tup [t3, t4]] [fr P.1, fr P.2] σ := fun _ _ _ _ _ => rfl
  unfold metF
  have k1 : ∀ i, r.lo = some i → mulOk i (botF P) := fun i hi => m6 i (hb.klo.b i hi)
  have k2 : ∀ i, r.hi = some i → mulOk i (botF P) := fun i hi => m6 i (hb.khi.b i hi)
  have base : ∀ (x : Va), eX (GA l) (.and (.or (.cmp .is (.idx (.var 0) (.cst (.int 6))) (.cst .non)) (.cmp .ge (.var 6) (.bin .mul (.idx (.var 0) (.cst (.int 6))) (.var 7)))) (.or (.cmp .is (.idx (.var 0) (.cst (.int 7))) (.cst .non)) (.cmp .le (.var 6) (.bin .mul (.idx (.var 0) (.cst (.int 7))) (.var 7))))) [some (rdV r), some (sh s), some (.int P.1.1), some (.int P.1.2), some (.int P.2.1), some (.int P.2.2), some (.int (topF r.p r.q P)), some (.int (botF P))] h = .ok (.bl (loF r.lo (topF r.p r.q P) (botF P) && hiF r.hi (topF r.p r.q P) (botF P))) h := by
    intro _
    cases hlo : r.lo with
    | none =>
      cases hhi : r.hi with
      | none => simp [i6, i7, hlo, hhi, ob, loF, hiF]
      | some j => simp [i6, i7, hlo, hhi, ob, loF, hiF, b_mul (k2 j hhi)]
    | some i =>
      by_cases c1 : i * botF P ≤ topF r.p r.q P
      · cases hhi : r.hi with
        | none => simp [i6, i7, hlo, hhi, ob, loF, hiF, b_mul (k1 i hlo), c1]
        | some j => simp [i6, i7, hlo, hhi, ob, loF, hiF, b_mul (k1 i hlo), b_mul (k2 j hhi), c1]
      · simp [i6, i7, hlo, ob, loF, hiF, b_mul (k1 i hlo), c1]
  have s1 : eS (GA l) (.set (.tup [(.tup [(.nm 2), (.nm 3)]), (.tup [(.nm 4), (.nm 5)])]) (.idx (.var 1) (.idx (.var 0) (.cst (.int 1))))) [some (rdV r), some (sh s), none, none, none, none, none, none] h = .ok (.nx [some (rdV r), some (sh s), some (.int P.1.1), some (.int P.1.2), some (.int P.2.1), some (.int P.2.2), none, none]) h :=
    setg (ixv (var0 (w := sh s) rfl) (ixg (w := rdV r) (var0 rfl) ix_rd1) ka) rfl
  have s2 : eS (GA l) (.set (.tup [(.nm 6), (.nm 7)]) (.tup (.cons (.bin .add (.bin .mul (.bin .mul (.idx (.var 0) (.cst (.int 4))) (.var 2)) (.var 5)) (.bin .mul (.bin .mul (.idx (.var 0) (.cst (.int 5))) (.var 4)) (.var 3))) (.cons (.bin .mul (.var 3) (.var 5)) .nil)))) [some (rdV r), some (sh s), some (.int P.1.1), some (.int P.1.2), some (.int P.2.1), some (.int P.2.2), none, none] h = .ok (.nx [some (rdV r), some (sh s), some (.int P.1.1), some (.int P.1.2), some (.int P.2.1), some (.int P.2.2), some (.int (topF r.p r.q P)), some (.int (botF P))]) h :=
    setg (tupg (xs1 (addg (mulg (mulg (ixg (w := rdV r) (var0 rfl) i4) (var0 rfl) m1) (var0 rfl) m2) (mulg (mulg (ixg (w := rdV r) (var0 rfl) i5) (var0 rfl) m3) (var0 rfl) m4)) (xs1 (mulg (var0 rfl) (var0 rfl) m5) xs0)) (by simp)) rfl
  have s3 := retg (base .non)
  show gcR h (handed (eSs (GA l) (.cons _ (.cons _ (.cons _ .nil))) _ h)) = _
  rw [seq_nx s1, seq_nx s2, seq_rt s3, handed_rt]
  exact gc1_bl
end Vy
set_option maxHeartbeats 4000000
namespace Vy
open PySem
def nr1 : Sm := (.set (.nm 2) (.call 28 (Str.ofString "_law_take") (.cons (.var 0) (.cons (.bi .len (.cons (.var 1) .nil)) .nil))))
def nr2 : Sm := (.set (.nm 3) (.bi .min (.cons (.bin .sub (.bi .len (.cons (.var 1) .nil)) (.cst (.int 1))) (.cons (.bin .add (.var 2) (.call 28 (Str.ofString "_law_take") (.cons (.var 0) (.cons (.cst (.int 4)) .nil)))) .nil))))
def nr3 : Sm := (.set (.tup [(.nm 4), (.tup [(.nm 5), (.nm 6)])]) (.tup (.cons (.call 28 (Str.ofString "_law_take") (.cons (.var 0) (.cons (.bi .len (.cons (.idx (.var 1) (.cst (.int 0))) .nil)) .nil))) (.cons (.gc (.call 29 (Str.ofString "_law_of") (.cons (.var 0) (.cons (.lst (.cons (.tup (.cons (.cst (.int 1)) (.cons (.cst (.int 0)) .nil))) (.cons (.tup (.cons (.cst (.int 0)) (.cons (.cst (.int 1)) .nil))) (.cons (.tup (.cons (.cst (.int 1)) (.cons (.cst (.int 1)) .nil))) (.cons (.tup (.cons (.cst (.int 2)) (.cons (.neg (.cst (.int 3))) .nil))) (.cons (.tup (.cons (.neg (.cst (.int 1))) (.cons (.cst (.int 0)) .nil))) (.cons (.tup (.cons (.cst (.int 3)) (.cons (.cst (.int 1)) .nil))) (.cons (.tup (.cons (.cst (.int 6)) (.cons (.cst (.int 6)) .nil))) .nil)))))))) .nil)))) .nil))))
def nr4 : Sm := (.set (.tup [(.tup [(.nm 7), (.nm 8)]), (.tup [(.nm 9), (.nm 10)])]) (.idx (.idx (.var 1) (.gc (.call 29 (Str.ofString "_law_of") (.cons (.var 0) (.cons (.lst (.cons (.var 2) (.cons (.var 3) .nil))) .nil))))) (.var 4)))
def nr5 : Sm := (.set (.nm 11) (.bin .fdiv (.bin .add (.bin .mul (.bin .mul (.var 5) (.var 7)) (.var 10)) (.bin .mul (.bin .mul (.var 6) (.var 9)) (.var 8))) (.bin .mul (.var 8) (.var 10))))
def nr6 : Sm := (.set (.nm 12) (.bin .add (.var 11) (.gc (.call 29 (Str.ofString "_law_of") (.cons (.var 0) (.cons (.lst (.cons (.cst (.int 0)) (.cons (.cst (.int 0)) (.cons (.cst (.int 1)) (.cons (.neg (.cst (.int 1))) .nil))))) .nil))))))
def nr7 : Sm := (.set (.nm 13) (.bin .add (.var 12) (.call 28 (Str.ofString "_law_take") (.cons (.var 0) (.cons (.cst (.int 3)) .nil)))))
def nr8 : Sm := (.set (.nm 14) (.call 28 (Str.ofString "_law_take") (.cons (.var 0) (.cons (.cst (.int 4)) .nil))))
def nr9 : Sm := (.ret (.tup (.cons (.gc (.call 29 (Str.ofString "_law_of") (.cons (.var 0) (.cons (.lst (.cons (.cst (.str (Str.ofString "a"))) (.cons (.cst (.str (Str.ofString "eye"))) (.cons (.cst (.str (Str.ofString "b9"))) (.cons (.cst (.str (Str.ofString "radar"))) .nil))))) .nil)))) (.cons (.var 4) (.cons (.var 2) (.cons (.var 3) (.cons (.var 5) (.cons (.var 6) (.cons (.ife (.cmp .eq (.var 14) (.cst (.int 0))) (.cst .non) (.var 12)) (.cons (.ife (.cmp .eq (.var 14) (.cst (.int 1))) (.cst .non) (.var 13)) .nil))))))))))
theorem nr_split : i__law_near_reading.body = .cons nr1 (.cons nr2 (.cons nr3 (.cons nr4 (.cons nr5 (.cons nr6 (.cons nr7 (.cons nr8 (.cons nr9 .nil)))))))) := by kernel_rfl
def names4 : List Str := [Str.ofString "a", Str.ofString "eye", Str.ofString "b9", Str.ofString "radar"]
def nameB (x : Str) : Bool := (x.cps.toList.all fun c => decide (c < 128)) && decide (x.length ≤ 8) && (match x.cps.toList with
  | [] => false
  | c :: _ => decide (c ∈ letters.cps.toList)) && x.cps.toList.all fun c => decide (c ∈ named.cps.toList)
theorem name_ok {x : Str} (h : nameB x = true) : NameOk x := by
  unfold nameB at h
  simp only [Bool.and_eq_true, decide_eq_true_eq] at h
  obtain ⟨⟨⟨h1, h2⟩, h3⟩, h4⟩ := h
  refine ⟨asc_of h1, h2, ?_, fun c hc => by simpa using List.all_eq_true.mp h4 c hc⟩
  cases e : x.cps.toList with
  | nil => rw [e] at h3; simp at h3
  | cons c r => rw [e] at h3; exact ⟨c, r, rfl, by simpa using h3⟩
theorem names_ok : ∀ x ∈ names4, NameOk x := by
  have : names4.all nameB = true := by decide +kernel
  intro x hx
  exact name_ok (List.all_eq_true.mp this x hx)
def ways : List (Int × Int) := [(1, 0), (0, 1), (1, 1), (2, -3), (-1, 0), (3, 1), (6, 6)]
theorem way_ok : ∀ w ∈ ways, w.1.natAbs ≤ 6 ∧ w.2.natAbs ≤ 6 ∧ ¬ (w.1 = 0 ∧ w.2 = 0) := by decide
structure NearOk (S : List (List Mr.Pt)) (w : Nat) (r : Rd) : Prop where
  o : RdOk r
  ax : r.ax < w
  la : r.la < S.length
  nm : r.src ∈ names4
theorem c_near_reading {H : Hm} {p n : Nat} (P : Pot H p n) (hn : n ≤ 700000) {S : List (List Mr.Pt)} {w : Nat} (k : StOk 12 w S) (hS : S.length ≤ 5) (l : Nat) :
    ∃ (r : Rd) (G : Hm), NearOk S w r ∧ gcR H (CC (l + 3) (Str.ofString "_law_near_reading") [.ref p, .tup (S.map sh)] H) = .ok (rdV r) G ∧ Upd H G p ∧ Pot G p (n + 9) := by
  have n0 := k.n0
  have w0 := k.w0
  have w3 := k.w3
  obtain ⟨fi, H1, f1, k1, U1, P1⟩ := c_takeN P (by omega) (up := S.length) (by omega) (by omega) (l + 1)
  obtain ⟨f, H2, f2, k2, U2, P2⟩ := c_takeN P1 (by omega) (up := 4) (by decide) (by decide) (l + 1)
  obtain ⟨ax, H3, f3, k3, U3, P3⟩ := c_takeN P2 (by omega) (up := w) (by omega) (by omega) (l + 1)
  obtain ⟨la, ela⟩ : ∃ la : Nat, (if ((fi : Int) + f) < (S.length : Int) - 1 then ((fi : Int) + f) else (S.length : Int) - 1) = (la : Int) := ⟨if fi + f < S.length - 1 then fi + f else S.length - 1, by split <;> split <;> omega⟩
  have la1 : la < S.length := by split at ela <;> omega
  have la2 : fi ≤ la := by split at ela <;> omega
  have la3 : la ≤ fi + 3 := by split at ela <;> omega
  have hS1 : S[fi]? = some S[fi] := List.getElem?_eq_getElem f1
  obtain ⟨s0, S', eS0⟩ : ∃ s S', S = s :: S' := by
    cases S with
    | nil => simp at n0
    | cons a b => exact ⟨a, b, rfl⟩
  have hw : s0.length = w := k.wid s0 (by rw [eS0]; exact List.mem_cons_self)
  have ix0 : ∀ G, idxV (.tup (S.map sh)) (.int 0) G = .ok (sh s0) G := fun G => by
    rw [eS0]
    exact ix_0
  have sgA : ∀ (x4 x5 x6 x7 x8 x9 x10 x11 x12 x13 x14 : Option Va), ∃ σ : Sg, σ = [some (.ref p), some (.tup (S.map sh)), some (.int (fi : Nat)), some (.int (la : Nat)), x4, x5, x6, x7, x8, x9, x10, x11, x12, x13, x14] := fun _ _ _ _ _ _ _ _ _ _ _ => ⟨_, rfl⟩
  have s1 : eS (GA (l + 2)) nr1 [some (.ref p), some (.tup (S.map sh)), none, none, none, none, none, none, none, none, none, none, none, none, none] H = .ok (.nx [some (.ref p), some (.tup (S.map sh)), some (.int (fi : Nat)), none, none, none, none, none, none, none, none, none, none, none, none]) H1 :=
    setg (take_e rfl (ex_bi_of (xs1 (var0 rfl) xs0) (by rw [len_tup, List.length_map])) k1) rfl
  have s2 : eS (GA (l + 2)) nr2 [some (.ref p), some (.tup (S.map sh)), some (.int (fi : Nat)), none, none, none, none, none, none, none, none, none, none, none, none] H1 = .ok (.nx [some (.ref p), some (.tup (S.map sh)), some (.int (fi : Nat)), some (.int (la : Nat)), none, none, none, none, none, none, none, none, none, none, none]) H2 := by
    refine setg (w := .int (la : Nat)) (ex_bi_of (ws := [.int ((S.length : Int) - 1), .int ((fi : Int) + f)]) (xs1 (subg (ex_bi_of (ws := [.tup (S.map sh)]) (xs1 (var0 rfl) xs0) (by rw [len_tup, List.length_map])) ex_cst) (xs1 (addg (var0 rfl) (take_x rfl k2)) xs0)) ?_) rfl
    show Res.ok (Va.int (if ((fi : Int) + f) < (S.length : Int) - 1 then ((fi : Int) + f) else (S.length : Int) - 1)) H2 = _
    rw [ela]
  obtain ⟨v4, H4, hv4, k4, U4, P4⟩ := of_new (Γ := GA (l + 2)) (l := l) (k := 29) (es := (.cons (.tup (.cons (.cst (.int 1)) (.cons (.cst (.int 0)) .nil))) (.cons (.tup (.cons (.cst (.int 0)) (.cons (.cst (.int 1)) .nil))) (.cons (.tup (.cons (.cst (.int 1)) (.cons (.cst (.int 1)) .nil))) (.cons (.tup (.cons (.cst (.int 2)) (.cons (.neg (.cst (.int 3))) .nil))) (.cons (.tup (.cons (.neg (.cst (.int 1))) (.cons (.cst (.int 0)) .nil))) (.cons (.tup (.cons (.cst (.int 3)) (.cons (.cst (.int 1)) .nil))) (.cons (.tup (.cons (.cst (.int 6)) (.cons (.cst (.int 6)) .nil))) .nil)))))))) (ws := ways.map fr) (σ := [some (.ref p), some (.tup (S.map sh)), some (.int (fi : Nat)), some (.int (la : Nat)), none, none, none, none, none, none, none, none, none, none, none]) rfl P3 (by omega)
    (xs1 (tupg (xs1 ex_cst (xs1 ex_cst xs0)) (by simp)) (xs1 (tupg (xs1 ex_cst (xs1 ex_cst xs0)) (by simp)) (xs1 (tupg (xs1 ex_cst (xs1 ex_cst xs0)) (by simp)) (xs1 (tupg (xs1 ex_cst (xs1 (negg ex_cst) xs0)) (by simp)) (xs1 (tupg (xs1 (negg ex_cst) (xs1 ex_cst xs0)) (by simp)) (xs1 (tupg (xs1 ex_cst (xs1 ex_cst xs0)) (by simp)) (xs1 (tupg (xs1 ex_cst (xs1 ex_cst xs0)) (by simp)) xs0))))))) (fun w hw => by
      obtain ⟨x, _, rfl⟩ := List.mem_map.mp hw
      rfl) (by decide) (by decide)
  obtain ⟨pq, hpq, rfl⟩ := List.mem_map.mp hv4
  obtain ⟨wp, wq, wz⟩ := way_ok pq hpq
  obtain ⟨pp, q⟩ := pq
  dsimp only at wp wq wz
  have s3 : eS (GA (l + 2)) nr3 [some (.ref p), some (.tup (S.map sh)), some (.int (fi : Nat)), some (.int (la : Nat)), none, none, none, none, none, none, none, none, none, none, none] H2 = .ok (.nx [some (.ref p), some (.tup (S.map sh)), some (.int (fi : Nat)), some (.int (la : Nat)), some (.int (ax : Nat)), some (.int pp), some (.int q), none, none, none, none, none, none, none, none]) H4 := by
    refine setg (tupg (xs1 (take_e rfl (ex_bi_of (ws := [sh s0]) (xs1 (ixg (var0 rfl) (ix0 _)) xs0) (by rw [len_sh, hw])) k3) (xs1 k4 xs0)) (by simp)) rfl
  obtain ⟨v5, H5, hv5, k5, U5, P5⟩ := of_new (Γ := GA (l + 2)) (l := l) (k := 29) (es := (.cons (.var 2) (.cons (.var 3) .nil))) (ws := [.int (fi : Nat), .int (la : Nat)]) (σ := [some (.ref p), some (.tup (S.map sh)), some (.int (fi : Nat)), some (.int (la : Nat)), some (.int (ax : Nat)), some (.int pp), some (.int q), none, none, none, none, none, none, none, none]) rfl P4 (by omega) (xs1 (var0 rfl) (xs1 (var0 rfl) xs0)) (by intro w hw; simp at hw; rcases hw with rfl | rfl <;> rfl) (by simp) (by simp)
  obtain ⟨j, rfl, hj⟩ : ∃ j : Nat, v5 = .int (j : Nat) ∧ j < S.length := by
    simp at hv5
    rcases hv5 with rfl | rfl
    · exact ⟨fi, rfl, f1⟩
    · exact ⟨la, rfl, la1⟩
  have hs : S[j]? = some S[j] := List.getElem?_eq_getElem hj
  have hm : S[j] ∈ S := List.getElem_mem hj
  have hlw := k.wid _ hm
  have hax : ax < (S[j]).length := by omega
  obtain ⟨X, hX⟩ : ∃ X, (S[j])[ax]? = some X := ⟨_, List.getElem?_eq_getElem hax⟩
  have qX : Q6P 12 X := k.pts _ hm X (List.mem_of_getElem? hX)
  have i1 : ∀ G, idxV (.tup (S.map sh)) (.int (j : Nat)) G = .ok (sh S[j]) G := fun G => ix_tup (atI_nat (by rw [List.getElem?_map, hs]; rfl))
  have s4 : eS (GA (l + 2)) nr4 [some (.ref p), some (.tup (S.map sh)), some (.int (fi : Nat)), some (.int (la : Nat)), some (.int (ax : Nat)), some (.int pp), some (.int q), none, none, none, none, none, none, none, none] H4 = .ok (.nx [some (.ref p), some (.tup (S.map sh)), some (.int (fi : Nat)), some (.int (la : Nat)), some (.int (ax : Nat)), some (.int pp), some (.int q), some (.int X.1.1), some (.int X.1.2), some (.int X.2.1), some (.int X.2.2), none, none, none, none]) H5 :=
    setg (ixv (ixv (var0 rfl) k5 (i1 _)) (var0 rfl) (sh_at hX)) rfl
  have xa := qX.a.a
  have ya := qX.b.a
  have xb : X.1.2.natAbs ≤ 6 := by
    have := Int.le_of_dvd (by decide) qX.a.d
    have := qX.a.z
    omega
  have yb : X.2.2.natAbs ≤ 6 := by
    have := Int.le_of_dvd (by decide) qX.b.d
    have := qX.b.z
    omega
  have mulN : ∀ {a b : Int} {x y : Nat}, a.natAbs ≤ x → b.natAbs ≤ y → (a * b).natAbs ≤ x * y := fun {a b x y} h1 h2 => by rw [Int.natAbs_mul]; exact Nat.mul_le_mul h1 h2
  have t1 := mulN wp xa
  have t2 := mulN t1 yb
  have t3 := mulN wq ya
  have t4 := mulN t3 xb
  have t5 := mulN xb yb
  have up : ∀ {a : Int} {x : Nat}, a.natAbs ≤ x → x ≤ 1024 → a.natAbs ≤ 2 ^ 10 := fun h1 h2 => Nat.le_trans h1 (by omega)
  have m1 : mulOk pp X.1.1 := mp (up wp (by omega)) (up xa (by omega)) (by omega) (by omega)
  have m2 : mulOk (pp * X.1.1) X.2.2 := mp (up t1 (by omega)) (up yb (by omega)) (by omega) (by omega)
  have m3 : mulOk q X.2.1 := mp (up wq (by omega)) (up ya (by omega)) (by omega) (by omega)
  have m4 : mulOk (q * X.2.1) X.1.2 := mp (up t3 (by omega)) (up xb (by omega)) (by omega) (by omega)
  have m5 : mulOk X.1.2 X.2.2 := mp (up xb (by omega)) (up yb (by omega)) (by omega) (by omega)
  have z5 : 0 < X.1.2 * X.2.2 := Int.mul_pos qX.a.z qX.b.z
  obtain ⟨wo, ewo⟩ : ∃ wo : Int, (pp * X.1.1 * X.2.2 + q * X.2.1 * X.1.2).fdiv (X.1.2 * X.2.2) = wo := ⟨_, rfl⟩
  have bwo : wo.natAbs ≤ 900 := by
    rw [← ewo, Int.fdiv_eq_ediv_of_nonneg _ (by omega)]
    refine Nat.le_trans (Int.natAbs_ediv_le_natAbs _ _) ?_
    omega
  have s5 : eS (GA (l + 2)) nr5 [some (.ref p), some (.tup (S.map sh)), some (.int (fi : Nat)), some (.int (la : Nat)), some (.int (ax : Nat)), some (.int pp), some (.int q), some (.int X.1.1), some (.int X.1.2), some (.int X.2.1), some (.int X.2.2), none, none, none, none] H5 = .ok (.nx [some (.ref p), some (.tup (S.map sh)), some (.int (fi : Nat)), some (.int (la : Nat)), some (.int (ax : Nat)), some (.int pp), some (.int q), some (.int X.1.1), some (.int X.1.2), some (.int X.2.1), some (.int X.2.2), some (.int wo), none, none, none]) H5 := by
    rw [← ewo]
    exact setg (fdivg (addg (mulg (mulg (var0 rfl) (var0 rfl) m1) (var0 rfl) m2) (mulg (mulg (var0 rfl) (var0 rfl) m3) (var0 rfl) m4)) (mulg (var0 rfl) (var0 rfl) m5) (dp (k := 10) z5 (up t5 (by omega)) (by omega))) rfl
  obtain ⟨v6, H6, hv6, k6, U6, P6⟩ := of_new (Γ := GA (l + 2)) (l := l) (k := 29) (es := (.cons (.cst (.int 0)) (.cons (.cst (.int 0)) (.cons (.cst (.int 1)) (.cons (.neg (.cst (.int 1))) .nil))))) (ws := [.int 0, .int 0, .int 1, .int (-1)]) (σ := [some (.ref p), some (.tup (S.map sh)), some (.int (fi : Nat)), some (.int (la : Nat)), some (.int (ax : Nat)), some (.int pp), some (.int q), some (.int X.1.1), some (.int X.1.2), some (.int X.2.1), some (.int X.2.2), some (.int wo), none, none, none]) rfl P5 (by omega) (xs1 ex_cst (xs1 ex_cst (xs1 ex_cst (xs1 (negg ex_cst) xs0)))) (by intro w hw; simp at hw; rcases hw with rfl | rfl | rfl <;> rfl) (by simp) (by simp)
  obtain ⟨d6, rfl, b6⟩ : ∃ d : Int, v6 = .int d ∧ d.natAbs ≤ 1 := by
    simp at hv6
    rcases hv6 with rfl | rfl | rfl
    · exact ⟨0, rfl, by decide⟩
    · exact ⟨1, rfl, by decide⟩
    · exact ⟨-1, rfl, by decide⟩
  have s6 : eS (GA (l + 2)) nr6 [some (.ref p), some (.tup (S.map sh)), some (.int (fi : Nat)), some (.int (la : Nat)), some (.int (ax : Nat)), some (.int pp), some (.int q), some (.int X.1.1), some (.int X.1.2), some (.int X.2.1), some (.int X.2.2), some (.int wo), none, none, none] H5 = .ok (.nx [some (.ref p), some (.tup (S.map sh)), some (.int (fi : Nat)), some (.int (la : Nat)), some (.int (ax : Nat)), some (.int pp), some (.int q), some (.int X.1.1), some (.int X.1.2), some (.int X.2.1), some (.int X.2.2), some (.int wo), some (.int (wo + d6)), none, none]) H6 :=
    setg (addg (var0 rfl) k6) rfl
  obtain ⟨d7, H7, f7, k7, U7, P7⟩ := c_takeN P6 (by omega) (up := 3) (by decide) (by decide) (l + 1)
  have s7 : eS (GA (l + 2)) nr7 [some (.ref p), some (.tup (S.map sh)), some (.int (fi : Nat)), some (.int (la : Nat)), some (.int (ax : Nat)), some (.int pp), some (.int q), some (.int X.1.1), some (.int X.1.2), some (.int X.2.1), some (.int X.2.2), some (.int wo), some (.int (wo + d6)), none, none] H6 = .ok (.nx [some (.ref p), some (.tup (S.map sh)), some (.int (fi : Nat)), some (.int (la : Nat)), some (.int (ax : Nat)), some (.int pp), some (.int q), some (.int X.1.1), some (.int X.1.2), some (.int X.2.1), some (.int X.2.2), some (.int wo), some (.int (wo + d6)), some (.int (wo + d6 + d7)), none]) H7 :=
    setg (addg (var0 rfl) (take_x rfl k7)) rfl
  obtain ⟨d8, H8, f8, k8, U8, P8⟩ := c_takeN P7 (by omega) (up := 4) (by decide) (by decide) (l + 1)
  have s8 : eS (GA (l + 2)) nr8 [some (.ref p), some (.tup (S.map sh)), some (.int (fi : Nat)), some (.int (la : Nat)), some (.int (ax : Nat)), some (.int pp), some (.int q), some (.int X.1.1), some (.int X.1.2), some (.int X.2.1), some (.int X.2.2), some (.int wo), some (.int (wo + d6)), some (.int (wo + d6 + d7)), none] H7 = .ok (.nx [some (.ref p), some (.tup (S.map sh)), some (.int (fi : Nat)), some (.int (la : Nat)), some (.int (ax : Nat)), some (.int pp), some (.int q), some (.int X.1.1), some (.int X.1.2), some (.int X.2.1), some (.int X.2.2), some (.int wo), some (.int (wo + d6)), some (.int (wo + d6 + d7)), some (.int (d8 : Nat))]) H8 :=
    setg (take_x rfl k8) rfl
  obtain ⟨v9, H9, hv9, k9, U9, P9⟩ := of_new (Γ := GA (l + 2)) (l := l) (k := 29) (es := (.cons (.cst (.str (Str.ofString "a"))) (.cons (.cst (.str (Str.ofString "eye"))) (.cons (.cst (.str (Str.ofString "b9"))) (.cons (.cst (.str (Str.ofString "radar"))) .nil))))) (ws := names4.map .str) (σ := [some (.ref p), some (.tup (S.map sh)), some (.int (fi : Nat)), some (.int (la : Nat)), some (.int (ax : Nat)), some (.int pp), some (.int q), some (.int X.1.1), some (.int X.1.2), some (.int X.2.1), some (.int X.2.2), some (.int wo), some (.int (wo + d6)), some (.int (wo + d6 + d7)), some (.int (d8 : Nat))]) rfl P8 (by omega) (xs1 ex_cst (xs1 ex_cst (xs1 ex_cst (xs1 ex_cst xs0)))) (fun w hw => by
      obtain ⟨x, _, rfl⟩ := List.mem_map.mp hw
      rfl) (by simp [names4]) (by simp [names4])
  obtain ⟨nm, hnm, rfl⟩ := List.mem_map.mp hv9
  have ez : ∀ (a : Int), eX (GA (l + 2)) (.cmp .eq (.var 14) (.cst (.int a))) [some (.ref p), some (.tup (S.map sh)), some (.int (fi : Nat)), some (.int (la : Nat)), some (.int (ax : Nat)), some (.int pp), some (.int q), some (.int X.1.1), some (.int X.1.2), some (.int X.2.1), some (.int X.2.2), some (.int wo), some (.int (wo + d6)), some (.int (wo + d6 + d7)), some (.int (d8 : Nat))] H9 = .ok (.bl (decide ((d8 : Int) = a))) H9 := fun a => eqg (var0 rfl) ex_cst
  obtain ⟨lo, elo, xlo⟩ : ∃ lo : Option Int, lo = (if (d8 : Int) = 0 then none else some (wo + d6)) ∧ eX (GA (l + 2)) (.ife (.cmp .eq (.var 14) (.cst (.int 0))) (.cst .non) (.var 12)) [some (.ref p), some (.tup (S.map sh)), some (.int (fi : Nat)), some (.int (la : Nat)), some (.int (ax : Nat)), some (.int pp), some (.int q), some (.int X.1.1), some (.int X.1.2), some (.int X.2.1), some (.int X.2.2), some (.int wo), some (.int (wo + d6)), some (.int (wo + d6 + d7)), some (.int (d8 : Nat))] H9 = .ok (ob lo) H9 := by
    refine ⟨_, rfl, ?_⟩
    have e := ez 0
    by_cases h : (d8 : Int) = 0
    · rw [decide_eq_true h] at e
      rw [if_pos h]
      exact ife1 e ex_cst
    · rw [decide_eq_false h] at e
      rw [if_neg h]
      exact ife2 e (var0 rfl)
  obtain ⟨hi, ehi, xhi⟩ : ∃ hi : Option Int, hi = (if (d8 : Int) = 1 then none else some (wo + d6 + d7)) ∧ eX (GA (l + 2)) (.ife (.cmp .eq (.var 14) (.cst (.int 1))) (.cst .non) (.var 13)) [some (.ref p), some (.tup (S.map sh)), some (.int (fi : Nat)), some (.int (la : Nat)), some (.int (ax : Nat)), some (.int pp), some (.int q), some (.int X.1.1), some (.int X.1.2), some (.int X.2.1), some (.int X.2.2), some (.int wo), some (.int (wo + d6)), some (.int (wo + d6 + d7)), some (.int (d8 : Nat))] H9 = .ok (ob hi) H9 := by
    refine ⟨_, rfl, ?_⟩
    have e := ez 1
    by_cases h : (d8 : Int) = 1
    · rw [decide_eq_true h] at e
      rw [if_pos h]
      exact ife1 e ex_cst
    · rw [decide_eq_false h] at e
      rw [if_neg h]
      exact ife2 e (var0 rfl)
  have s9 : eS (GA (l + 2)) nr9 [some (.ref p), some (.tup (S.map sh)), some (.int (fi : Nat)), some (.int (la : Nat)), some (.int (ax : Nat)), some (.int pp), some (.int q), some (.int X.1.1), some (.int X.1.2), some (.int X.2.1), some (.int X.2.2), some (.int wo), some (.int (wo + d6)), some (.int (wo + d6 + d7)), some (.int (d8 : Nat))] H8 = .ok (.rt (rdV ⟨nm, ax, fi, la, pp, q, lo, hi⟩)) H9 :=
    retg (tupg (xs1 k9 (xs1 (var0 rfl) (xs1 (var0 rfl) (xs1 (var0 rfl) (xs1 (var0 rfl) (xs1 (var0 rfl) (xs1 xlo (xs1 xhi xs0)))))))) (by simp))
  have U := (((((((U1.trans U2).trans U3).trans U4).trans U5).trans U6).trans U7).trans U8).trans U9
  have bd : BdsOk lo hi := by
    rw [elo, ehi]
    refine ⟨⟨fun i h => ?_⟩, ⟨fun i h => ?_⟩, fun h1 h2 => ?_, fun a b h1 h2 => ?_⟩
    · split at h
      · cases h
      · cases h; omega
    · split at h
      · cases h
      · cases h; omega
    · split at h1
      · split at h2
        · omega
        · cases h2
      · cases h1
    · split at h1
      · cases h1
      · split at h2
        · cases h2
        · cases h1
          cases h2
          omega
  refine ⟨⟨nm, ax, fi, la, pp, q, lo, hi⟩, H9, ⟨⟨names_ok _ hnm, by show ax ≤ 2; omega, by show fi ≤ 12; omega, ⟨la2, la3, by show la ≤ 12; omega⟩, by show pp.natAbs ≤ 9; omega, by show q.natAbs ≤ 9; omega, wz, bd⟩, f3, la1, hnm⟩, ?_, U, P9⟩
  rw [n__law_near_reading, nr_split, seq_nx s1, seq_nx s2, seq_nx s3, seq_nx s4, seq_nx s5, seq_nx s6, seq_nx s7, seq_nx s8, seq_rt s9, handed_rt]
  exact U.gc0 (pure_rd _)
end Vy
set_option maxHeartbeats 4000000
namespace Vy
open PySem
def rt1 : Sm := (.set (.nm 1) (.call 34 (Str.ofString "_law_drawn_states") (.cons (.var 0) (.cons (.bin .add (.cst (.int 1)) (.call 28 (Str.ofString "_law_take") (.cons (.var 0) (.cons (.cst (.int 5)) .nil)))) (.cons (.bin .add (.cst (.int 1)) (.call 28 (Str.ofString "_law_take") (.cons (.var 0) (.cons (.cst (.int 3)) .nil)))) .nil)))))
def rt2 : Sm := (.set (.nm 2) (.gc (.bi .tuple (.cons x__law_right_1 .nil))))
def rt3 : Sm := s__law_right_1
def rt4 : Sm := (.set (.nm 4) (.gc (.bi .tuple (.cons x__law_right_3 .nil))))
def rt5 : Sm := (.ret (.and (.cmp .eq (.bi .repr (.cons (.callk 26 (Str.ofString "sources") [(Str.ofString "readings")] .nil (.cons (.var 4) .nil)) .nil)) (.bi .repr (.cons (.gc (.bi .tuple (.cons (.gc (.sss x__law_right_4)) .nil))) .nil))) (.cmp .eq (.bi .repr (.cons (.call 26 (Str.ofString "sources") (.cons (.tup .nil) .nil)) .nil)) (.cst (.str (Str.ofString "()"))))))
theorem rt_split : i__law_right.body = .cons rt1 (.cons rt2 (.cons rt3 (.cons rt4 (.cons rt5 .nil)))) := by kernel_rfl
def rb1 : Sm := (.set (.nm 5) (.gc (.bi .any (.cons x__law_right_2 .nil))))
def rb2 : Sm := (.ife (.cmp .ne (.bi .repr (.cons (.callk 25 (Str.ofString "fulfils") [(Str.ofString "reading"), (Str.ofString "states")] .nil (.cons (.var 3) (.cons (.var 1) .nil))) .nil)) (.bi .repr (.cons (.var 5) .nil))) (.cons (.ret (.cst (.bl false))) .nil) .nil)
theorem rb_split : b__law_right_1 = .cons rb1 (.cons rb2 .nil) := by kernel_rfl
theorem rep_bl (b : Bool) : repOk (.bool b) = true := by cases b <;> decide +kernel
def metAll (r : Rd) (S : List (List Mr.Pt)) : Bool := fulf r S
theorem rb_one {r : Rd} {S : List (List Mr.Pt)} {w : Nat} (k : StOk 12 w S) (o : NearOk S w r) {a x2 x4 x5 x6 x7 : Option Va} (l : Nat) (h : Hm) :
    eSs (GA (l + 7)) b__law_right_1 [a, some (.tup (S.map sh)), x2, some (rdV r), x4, x5, x6, x7] h = .ok (.nx [a, some (.tup (S.map sh)), x2, some (rdV r), x4, some (.bl (fulf r S)), x6, x7]) h := by
  have n5 := k.n5
  have src : eIt (GA (l + 7)) (.seq (.slc (.var 1) (.some (.idx (.var 3) (.cst (.int 2)))) (.some (.bin .add (.idx (.var 3) (.cst (.int 3))) (.cst (.int 1)))))) [a, some (.tup (S.map sh)), x2, some (rdV r), x4, x5, x6, none] h = .ok ⟨(cutL S (some (r.fi : Nat)) (some ((r.la : Nat) + 1))).map sh, []⟩ h := by
    have sl : slcV (some ((r.fi : Nat) : Int)) (some ((r.la : Nat) + 1)) (.tup (S.map sh)) h = .ok (.tup ((cutL S (some (r.fi : Nat)) (some ((r.la : Nat) + 1))).map sh)) h := by
      rw [← cut_map]
      rfl
    simp [ix_rd2, ix_rd3, sl]
  have src7 : eIt (GA (l + 7)) (.seq (.slc (.var 1) (.some (.idx (.var 3) (.cst (.int 2)))) (.some (.bin .add (.idx (.var 3) (.cst (.int 3))) (.cst (.int 1)))))) [a, some (.tup (S.map sh)), x2, some (rdV r), x4, x5, x6, x7] h = .ok ⟨(cutL S (some (r.fi : Nat)) (some ((r.la : Nat) + 1))).map sh, []⟩ h := by
    have sl : slcV (some ((r.fi : Nat) : Int)) (some ((r.la : Nat) + 1)) (.tup (S.map sh)) h = .ok (.tup ((cutL S (some (r.fi : Nat)) (some ((r.la : Nat) + 1))).map sh)) h := by
      rw [← cut_map]
      rfl
    simp [ix_rd2, ix_rd3, sl]
  have lc : eX (GA (l + 7)) x__law_right_2 [a, some (.tup (S.map sh)), x2, some (rdV r), x4, x5, x6, x7] h = .ok (.ref h.length) (h ++ [.lst ((cutL S (some (r.fi : Nat)) (some ((r.la : Nat) + 1))).map fun s => .bl (metS r s))]) := by
    refine eX_lc (xs := cutL S (some (r.fi : Nat)) (some ((r.la : Nat) + 1))) (enc := sh) (g := []) src7 heldOk_nil (sz (Nat.le_trans cut_len (by omega))) fun s hs => ⟨[a, some (.tup (S.map sh)), x2, some (rdV r), x4, x5, x6, some (sh s)], rfl, fun u => ?_⟩
    obtain ⟨P, e1, q⟩ := at_ax k o.ax (cut_sub s hs)
    exact call2 (var0 (w := rdV r) rfl) (var0 (w := sh s) rfl) (c_law_is_met o.o e1 q k.hm (l + 6) _)
  have s1 : eS (GA (l + 7)) rb1 [a, some (.tup (S.map sh)), x2, some (rdV r), x4, x5, x6, x7] h = .ok (.nx [a, some (.tup (S.map sh)), x2, some (rdV r), x4, some (.bl (fulf r S)), x6, x7]) h := by
    refine setg (w := .bl (fulf r S)) ?_ rfl
    rw [ex_gc, ex_bi_of (by rw [exs_cons, lc, bind_ok, exs_nil, bind_ok]) (any_end _ (metS r))]
    exact gc2_bl
  have s2 : eS (GA (l + 7)) rb2 [a, some (.tup (S.map sh)), x2, some (rdV r), x4, some (.bl (fulf r S)), x6, x7] h = .ok (.nx [a, some (.tup (S.map sh)), x2, some (rdV r), x4, some (.bl (fulf r S)), x6, x7]) h :=
    ife_no (ne_repr (callk0 (xs1 (var0 (w := rdV r) rfl) (xs1 (var0 rfl) xs0)) (c_fulfils o.o k o.ax o.la l h)) (var0 rfl) (d := .bool (fulf r S)) (fun _ => rfl) (rep_bl _))
  rw [rb_split, seq_nx s1, one_nx s2]
theorem rb_all {S : List (List Mr.Pt)} {w : Nat} (k : StOk 12 w S) {a x2 x4 x6 x7 : Option Va} (l : Nat) (h : Hm) :
    ∀ (rs : List Rd) (x3 x5 : Option Va), (∀ r ∈ rs, NearOk S w r) → ∃ y3 y5, forL [] (.nm 3) (fun σ1 h2 => eSs (GA (l + 7)) b__law_right_1 σ1 h2) (rs.map rdV) [a, some (.tup (S.map sh)), x2, x3, x4, x5, x6, x7] h = .ok (.nx [a, some (.tup (S.map sh)), x2, y3, x4, y5, x6, x7]) h
  | [], x3, x5, _ => ⟨x3, x5, forL_nil heldOk_nil⟩
  | r :: rs, x3, x5, hr => by
    obtain ⟨y3, y5, e⟩ := rb_all k (a := a) (x2 := x2) (x4 := x4) (x6 := x6) (x7 := x7) l h rs (some (rdV r)) (some (.bl (fulf r S))) (fun q hq => hr q (List.mem_cons_of_mem _ hq))
    refine ⟨y3, y5, ?_⟩
    rw [List.map_cons, forL_nx heldOk_nil rfl (rb_one k (hr r List.mem_cons_self) l h)]
    exact e
/-- a reading of one tick -/
def exa (r : Rd) : Rd := { r with la := r.fi }
theorem exa_ok {r : Rd} (o : RdOk r) : RdOk (exa r) := ⟨o.src, o.ax, o.fi, ⟨Nat.le_refl _, by show r.fi ≤ r.fi + 3; omega, o.fi⟩, o.p, o.q, o.nz, o.bds⟩
theorem add_tup {us ws : List Va} {h : Hm} (hl : us.length + ws.length ≤ 1000) : binV .add (.tup us) (.tup ws) h = .ok (.tup (us ++ ws)) h := by
  show (if us.length + ws.length ≤ sizeLine then _ else _) = _
  rw [if_pos (sz (by omega))]
theorem exa_x {Γ : Ev} {r : Rd} {a x1 x2 x4 x5 x6 x7 : Option Va} {h : Hm} : eX Γ (.bin .add (.bin .add (.slc (.var 3) .none (.some (.cst (.int 3)))) (.slc (.var 3) (.some (.cst (.int 2))) (.some (.cst (.int 3))))) (.slc (.var 3) (.some (.cst (.int 4))) .none)) [a, x1, x2, some (rdV r), x4, x5, x6, x7] h = .ok (rdV (exa r)) h := by
  have e1 : slcV none (some 3) (rdV r) h = .ok (.tup [.str r.src, .int (r.ax : Nat), .int (r.fi : Nat)]) h := rfl
  have e2 : slcV (some 2) (some 3) (rdV r) h = .ok (.tup [.int (r.fi : Nat)]) h := rfl
  have e3 : slcV (some 4) none (rdV r) h = .ok (.tup [.int r.p, .int r.q, ob r.lo, ob r.hi]) h := rfl
  have a1 : binV .add (.tup [.str r.src, .int (r.ax : Nat), .int (r.fi : Nat)]) (.tup [.int (r.fi : Nat)]) h = .ok (.tup [.str r.src, .int (r.ax : Nat), .int (r.fi : Nat), .int (r.fi : Nat)]) h := add_tup (by simp)
  have a2 : binV .add (.tup [.str r.src, .int (r.ax : Nat), .int (r.fi : Nat), .int (r.fi : Nat)]) (.tup [.int r.p, .int r.q, ob r.lo, ob r.hi]) h = .ok (rdV (exa r)) h := add_tup (by simp)
  have z1 : eX Γ (.slc (.var 3) .none (.some (.cst (.int 3)))) [a, x1, x2, some (rdV r), x4, x5, x6, x7] h = .ok (.tup [.str r.src, .int (r.ax : Nat), .int (r.fi : Nat)]) h := by
    rw [ex_slc, var0 (w := rdV r) rfl, bind_ok, exo_none, bind_ok, exo_some, ex_cst, bind_ok]
    exact e1
  have z2 : eX Γ (.slc (.var 3) (.some (.cst (.int 2))) (.some (.cst (.int 3)))) [a, x1, x2, some (rdV r), x4, x5, x6, x7] h = .ok (.tup [.int (r.fi : Nat)]) h := by
    rw [ex_slc, var0 (w := rdV r) rfl, bind_ok, exo_some, ex_cst, bind_ok]
    exact e2
  have z3 : eX Γ (.slc (.var 3) (.some (.cst (.int 4))) .none) [a, x1, x2, some (rdV r), x4, x5, x6, x7] h = .ok (.tup [.int r.p, .int r.q, ob r.lo, ob r.hi]) h := by
    rw [ex_slc, var0 (w := rdV r) rfl, bind_ok, exo_some, ex_cst, bind_ok]
    exact e3
  rw [ex_bin, ex_bin, z1, bind_ok, z2, bind_ok, a1, bind_ok, z3, bind_ok, a2]
def stD (x : Str) : PyData := .str x
def txD (l : List Str) : PyData := .tuple (l.map stD)
theorem dat_tx (G : Hm) (l : List Str) : dat G (.tup (l.map .str)) = some (txD l) := by
  show (Va.dats _ _).map PyData.tuple = _
  rw [dats_map (d := stD) (fun _ => rfl)]
  rfl
def txB (x : Str) : Bool := (stD x).showable && plain (stD x) && decide (x.length ≤ 8)
theorem txB_4 : ∀ x ∈ names4, txB x = true := by
  have : names4.all txB = true := by decide +kernel
  exact fun x hx => List.all_eq_true.mp this x hx
theorem depAll_tx : ∀ l : List Str, PyData.depthAll (l.map stD) ≤ 1
  | [] => by simp [PyData.depthAll]
  | x :: l => by
    have := depAll_tx l
    simp [PyData.depthAll, stD, PyData.depth]
    simpa [stD] using this
theorem rep_tx {l : List Str} (h : ∀ x ∈ l, x ∈ names4) (hl : l.length ≤ 60) : repOk (txD l) = true := by
  obtain ⟨a, b, c⟩ := shows_map (d := stD) (n := 82) (q := txB) (fun x hx => by
    unfold txB at hx
    simp only [Bool.and_eq_true, decide_eq_true_eq] at hx
    refine ⟨hx.1.1, hx.1.2, ?_⟩
    have := hx.2
    simp [stD, shL]
    omega) l (List.all_eq_true.mpr fun x hx => txB_4 x (h x hx))
  have d := depAll_tx l
  have c2 : shLs (l.map stD) ≤ 60 * 84 := Nat.le_trans c (Nat.mul_le_mul_right _ hl)
  refine repOk_of ?_ ?_ ?_ ?_
  · simpa [txD, PyData.showable] using a
  · simpa [txD, plain] using b
  · simp only [txD, PyData.depth]
    omega
  · simp only [txD, shL]
    omega
theorem mem_ins {a x : Str} : ∀ {l : List Str}, x ∈ insS a l ↔ x = a ∨ x ∈ l
  | [] => by simp [insS]
  | b :: l => by
    unfold insS
    split
    · rw [List.mem_cons, mem_ins, List.mem_cons]
      constructor <;> (rintro (h | h | h) <;> simp [h])
    · simp [List.mem_cons]
theorem mem_sort {x : Str} : ∀ {l : List Str}, x ∈ sortS l ↔ x ∈ l
  | [] => Iff.rfl
  | a :: l => by rw [sortS, mem_ins, mem_sort, List.mem_cons]
theorem few_of {rs : List Rd} (h : ∀ r ∈ rs, r.src ∈ names4) : (∀ x ∈ srcs rs, x ∈ names4) ∧ (srcs rs).length ≤ 4 := by
  have h1 : ∀ x ∈ addAll (rs.map Rd.src) [], x ∈ names4 := addAll_sub _ (fun y hy => absurd hy (by simp)) fun x hx => by
    obtain ⟨r, hr, rfl⟩ := List.mem_map.mp hx
    exact h r hr
  refine ⟨fun x hx => h1 x (mem_sort.mp hx), ?_⟩
  unfold srcs
  rw [sortS_len]
  have nd : (addAll (rs.map Rd.src) []).Nodup := addAll_nd _ List.nodup_nil
  exact List.Nodup.length_le_of_subset nd h1
theorem few_ok {rs : List Rd} (h : ∀ r ∈ rs, RdOk r ∧ r.fi = r.la ∧ r.src ∈ names4) (hl : rs.length ≤ 24) : FewOk rs :=
  ⟨fun r hr => (h r hr).1, hl, Nat.le_trans (few_of fun r hr => (h r hr).2.2).2 (by decide), fun r hr => (h r hr).2.1⟩
theorem rt5_x {rs : List Rd} (o : FewOk rs) (nm : ∀ r ∈ rs, r.src ∈ names4) {a x1 x2 x3 x5 x6 x7 : Option Va} (l : Nat) (h : Hm) :
    eS (GA (l + 7)) rt5 [a, x1, x2, x3, some (.tup (rs.map rdV)), x5, x6, x7] h = .ok (.rt (.bl true)) h := by
  have hl := o.len
  obtain ⟨f1, f2⟩ := few_of nm
  have rp := rep_tx f1 (by omega)
  have lc : eX (GA (l + 7)) x__law_right_4 [a, x1, x2, x3, some (.tup (rs.map rdV)), x5, x6, x7] h = .ok (.ref h.length) (h ++ [.lst ((rs.map Rd.src).map .str)]) := by
    rw [List.map_map]
    refine eX_lc (xs := rs) (enc := rdV) (g := []) (by rw [eit_seq, var0 (w := .tup (rs.map rdV)) rfl, bind_ok, src_tup]) heldOk_nil (sz (by omega)) fun r hr => ⟨[a, x1, x2, some (rdV r), some (.tup (rs.map rdV)), x5, x6, x7], rfl, fun u => ?_⟩
    exact ixg (w := rdV r) (var0 rfl) ix_rd0
  have ss : eX (GA (l + 7)) (.gc (.sss x__law_right_4)) [a, x1, x2, x3, some (.tup (rs.map rdV)), x5, x6, x7] h = .ok (.ref h.length) (h ++ [.lst ((srcs rs).map .str)]) := by
    rw [ex_gc, ex_sss, lc, bind_ok]
    have sv : sssV (.ref h.length) (h ++ [.lst ((rs.map Rd.src).map .str)]) = .ok (.ref (h ++ [Ce.lst ((rs.map Rd.src).map .str)]).length) (h ++ [.lst ((rs.map Rd.src).map .str)] ++ [.lst ((srcs rs).map .str)]) := by
      unfold sssV
      dsimp only
      rw [seqAt_end, Option.bind_some]
      have := strsV_map (fun x : Str => x) (rs.map Rd.src)
      simp only [List.map_id'] at this
      rw [this]
      dsimp only
      rw [if_pos (by rw [List.length_map]; omega)]
      exact newL_60 (by rw [List.length_map]; show (srcs rs).length ≤ 1000; omega)
    rw [sv, List.append_assoc]
    exact gcR_new (by rw [← List.append_assoc]; exact at_end) (by simp) (pures_map (fun _ => rfl) _)
  have tp : eX (GA (l + 7)) (.gc (.bi .tuple (.cons (.gc (.sss x__law_right_4)) .nil))) [a, x1, x2, x3, some (.tup (rs.map rdV)), x5, x6, x7] h = .ok (.tup ((srcs rs).map .str)) h := by
    rw [ex_gc, ex_bi_of (by rw [exs_cons, ss, bind_ok, exs_nil, bind_ok]) (tup_mid (t := []))]
    exact gcR_tail (pures_map (fun _ => rfl) _)
  have q1 := eq_dat (callk0 (l := l + 7) (k := 26) (f := Str.ofString "sources") (ks := [Str.ofString "readings"]) (xs1 (var0 (i := 4) (σ := [a, x1, x2, x3, some (.tup (rs.map rdV)), x5, x6, x7]) rfl) xs0) (c_sources o l h)) tp (dat_tx h _) (dat_tx h _) rp
  have o0 : FewOk [] := few_ok (fun r hr => absurd hr (by simp)) (by simp)
  have c0 : eX (GA (l + 7)) (.call 26 (Str.ofString "sources") (.cons (.tup .nil) .nil)) [a, x1, x2, x3, some (.tup (rs.map rdV)), x5, x6, x7] h = .ok (.tup []) h := by
    have := c_sources o0 l h
    exact call0 (tupg xs0 (by simp)) this
  have t0 : (PyData.tuple []).shown = Str.ofString "()" := by kernel_rfl
  have q2 : eX (GA (l + 7)) (.cmp .eq (.bi .repr (.cons (.call 26 (Str.ofString "sources") (.cons (.tup .nil) .nil)) .nil)) (.cst (.str (Str.ofString "()")))) [a, x1, x2, x3, some (.tup (rs.map rdV)), x5, x6, x7] h = .ok (.bl true) h := by
    have k1 := ex_bi_of (Γ := GA (l + 7)) (f := .repr) (es := .cons (.call 26 (Str.ofString "sources") (.cons (.tup .nil) .nil)) .nil) (xs1 c0 xs0) (bi_repr (h := h) (w := .tup []) (d := .tuple []) rfl (by decide +kernel))
    have asc : Asc (Str.ofString "()") := asc_of (by decide +kernel)
    rw [ex_cmp, k1, bind_ok, ex_cst, bind_ok, t0, q_eq_str asc asc, decide_eq_true rfl, ofB_some]
  refine retg ?_
  rw [ex_and, q1, bind_ok]
  exact q2
theorem c_right {H : Hm} {p n : Nat} (P : Pot H p n) (hn : n ≤ 500000) (l : Nat) :
    ∃ G, gcR H (CC (l + 8) (Str.ofString "_law_right") [.ref p] H) = .ok (.bl true) G ∧ Upd H G p := by
  obtain ⟨d1, H1, f1, k1, U1, P1⟩ := c_takeN P (by omega) (up := 5) (by decide) (by decide) (l + 6)
  obtain ⟨d2, H2, f2, k2, U2, P2⟩ := c_takeN P1 (by omega) (up := 3) (by decide) (by decide) (l + 6)
  obtain ⟨S, H3, k, hS, k3, U3, P3⟩ := c_drawn_states P2 (by omega) (k := 1 + d1) (w := 1 + d2) (by omega) (by omega) (by omega) (by omega) (l + 3)
  have s1 : eS (GA (l + 7)) rt1 [some (.ref p), none, none, none, none, none, none, none] H = .ok (.nx [some (.ref p), some (.tup (S.map sh)), none, none, none, none, none, none]) H3 := by
    have e1 : ((1 + d1 : Nat) : Int) = 1 + (d1 : Int) := by omega
    have e2 : ((1 + d2 : Nat) : Int) = 1 + (d2 : Int) := by omega
    rw [e1, e2] at k3
    exact setg (callg3 (var0 rfl) (addg ex_cst (take_x rfl k1)) (addg ex_cst (take_x rfl k2)) k3) rfl
  obtain ⟨rs, H4, h1, h2, h3, U4, P4⟩ := lc_pot (B := 600000) (m := 9) (Γ := GA (l + 7)) (own := [6]) (elt := .call 36 (Str.ofString "_law_near_reading") (.cons (.var 0) (.cons (.var 1) .nil))) (t := .nm 6) (it := .of .rng (.cons (.cst (.int 8)) .nil)) (σ := [some (.ref p), some (.tup (S.map sh)), none, none, none, none, none, none]) (enc := rdV) (Q := NearOk S (1 + d2)) (p := p) (n := n + 1 + 1 + 60) (H := H3) (ws := rng1L ((8 : Nat) : Int))
    (by
      have e : eXs (GA (l + 7)) (.cons (.cst (.int 8)) .nil) [some (.ref p), some (.tup (S.map sh)), none, none, none, none, none, none] H3 = .ok [.int ((8 : Nat) : Int)] H3 := xs1 ex_cst xs0
      rw [eit_of, e, bind_ok, iter_rng1 (by omega)]) P3 (by simp [rng1L]; omega) (by simp [rng1L]) (fun _ => pure_rd _) fun v hv => ⟨[some (.ref p), some (.tup (S.map sh)), none, none, none, none, some v, none], rfl, fun G j PG hj => by
      obtain ⟨r, G1, q, e1, U, P'⟩ := c_near_reading PG (by omega) k (by omega) (l + 4)
      exact ⟨r, G1, q, callg2 (var0 rfl) (var0 rfl) e1, U, P'⟩⟩
  have hl : (rng1L ((8 : Nat) : Int)).length = 8 := by simp [rng1L]
  rw [hl] at h1 P4
  have s2 : eS (GA (l + 7)) rt2 [some (.ref p), some (.tup (S.map sh)), none, none, none, none, none, none] H3 = .ok (.nx [some (.ref p), some (.tup (S.map sh)), some (.tup (rs.map rdV)), none, none, none, none, none]) H4 := setg h3 rfl
  obtain ⟨y3, y5, f⟩ := rb_all k (a := some (.ref p)) (x2 := some (.tup (rs.map rdV))) (x4 := none) (x6 := none) (x7 := none) l H4 rs none none h2
  have s3 : eS (GA (l + 7)) rt3 [some (.ref p), some (.tup (S.map sh)), some (.tup (rs.map rdV)), none, none, none, none, none] H4 = .ok (.nx [some (.ref p), some (.tup (S.map sh)), some (.tup (rs.map rdV)), y3, none, y5, none, none]) H4 := by
    have := es_for (Γ := GA (l + 7)) (t := .nm 3) (it := .seq (.var 2)) (b := b__law_right_1) (ws := rs.map rdV) (g := []) (σ := [some (.ref p), some (.tup (S.map sh)), some (.tup (rs.map rdV)), none, none, none, none, none]) (h := H4) (h1 := H4) (by rw [eit_seq, var0 (w := .tup (rs.map rdV)) rfl, bind_ok, src_tup])
    exact this.trans f
  obtain ⟨d5, H5, f5, k5, U5, P5⟩ := c_takeN P4 (by omega) (up := 8) (by decide) (by decide) (l + 6)
  have cut : slcV none (some (1 + (d5 : Int))) (.tup (rs.map rdV)) H5 = .ok (.tup ((cutL rs none (some (1 + (d5 : Int)))).map rdV)) H5 := by
    rw [← cut_map]
    rfl
  have hcl : (cutL rs none (some (1 + (d5 : Int)))).length ≤ 8 := Nat.le_trans cut_len (by omega)
  have src : eIt (GA (l + 7)) (.seq (.slc (.var 2) .none (.some (.bin .add (.cst (.int 1)) (.call 28 (Str.ofString "_law_take") (.cons (.var 0) (.cons (.cst (.int 8)) .nil))))))) [some (.ref p), some (.tup (S.map sh)), some (.tup (rs.map rdV)), y3, none, y5, none, none] H4 = .ok ⟨(cutL rs none (some (1 + (d5 : Int)))).map rdV, []⟩ H5 := by
    have b : eX (GA (l + 7)) (.bin .add (.cst (.int 1)) (.call 28 (Str.ofString "_law_take") (.cons (.var 0) (.cons (.cst (.int 8)) .nil)))) [some (.ref p), some (.tup (S.map sh)), some (.tup (rs.map rdV)), y3, none, y5, none, none] H4 = .ok (.int (1 + (d5 : Int))) H5 := addg ex_cst (take_x rfl k5)
    rw [eit_seq, ex_slc, var0 (w := .tup (rs.map rdV)) rfl, bind_ok, exo_none, bind_ok, exo_some, b, bind_ok]
    dsimp only
    rw [bind_ok, cut, bind_ok, src_tup]
  have lc : eX (GA (l + 7)) x__law_right_3 [some (.ref p), some (.tup (S.map sh)), some (.tup (rs.map rdV)), y3, none, y5, none, none] H4 = .ok (.ref H5.length) (H5 ++ [.lst ((cutL rs none (some (1 + (d5 : Int)))).map fun r => rdV (exa r))]) :=
    eX_lc (xs := cutL rs none (some (1 + (d5 : Int)))) (enc := rdV) (g := []) src heldOk_nil (sz (by omega)) fun r hr => ⟨[some (.ref p), some (.tup (S.map sh)), some (.tup (rs.map rdV)), some (rdV r), none, y5, none, none], rfl, fun u => exa_x⟩
  have s4 : eS (GA (l + 7)) rt4 [some (.ref p), some (.tup (S.map sh)), some (.tup (rs.map rdV)), y3, none, y5, none, none] H4 = .ok (.nx [some (.ref p), some (.tup (S.map sh)), some (.tup (rs.map rdV)), y3, some (.tup (((cutL rs none (some (1 + (d5 : Int)))).map exa).map rdV)), y5, none, none]) H5 := by
    refine setg (w := .tup (((cutL rs none (some (1 + (d5 : Int)))).map exa).map rdV)) ?_ rfl
    rw [ex_gc, ex_bi_of (by rw [exs_cons, lc, bind_ok, exs_nil, bind_ok]) (tup_mid (t := [])), List.map_map]
    exact U5.gc (pures_map (fun r => pure_rd _) _)
  have all : ∀ r ∈ (cutL rs none (some (1 + (d5 : Int)))).map exa, RdOk r ∧ r.fi = r.la ∧ r.src ∈ names4 := fun r hr => by
    obtain ⟨q, hq, rfl⟩ := List.mem_map.mp hr
    have o := h2 q (cut_sub q hq)
    exact ⟨exa_ok o.o, rfl, o.nm⟩
  have s5 := rt5_x (few_ok all (by rw [List.length_map]; omega)) (fun r hr => (all r hr).2.2) (a := some (.ref p)) (x1 := some (.tup (S.map sh))) (x2 := some (.tup (rs.map rdV))) (x3 := y3) (x5 := y5) (x6 := none) (x7 := none) l H5
  have U := (((U1.trans U2).trans U3).trans U4).trans U5
  refine ⟨H5, ?_, U⟩
  rw [n__law_right, rt_split, seq_nx s1, seq_nx s2, seq_nx s3, seq_nx s4, seq_rt s5, handed_rt]
  exact U.gc0 rfl
end Vy
set_option maxHeartbeats 4000000
namespace Vy
open PySem
theorem main_law (ns : List Int) (hl : ns.length ≤ 63) : ∃ hE, CC 21 (Str.ofString "law") [.ref 0] [.frz (ns.map .int)] = .ok (.bl true) hE := by
  obtain ⟨h, hh⟩ : ∃ h : Hm, [Ce.frz (ns.map .int)] = h := ⟨_, rfl⟩
  have h0 : ∀ t : Hm, (h ++ t)[0]? = some (.frz (ns.map .int)) := fun t => by rw [← hh]; rfl
  rw [hh]
  obtain ⟨k, hk, ec⟩ := c_cellsN (h := h) (ns := ns) (by rw [← hh]; rfl) (m0 := 3) (by decide) (by decide) 19
  obtain ⟨v, lc⟩ := eX_lcg (Γ := GA 20) (own := [1]) (elt := .call 37 (Str.ofString "_law_right") (.cons (.call 27 (Str.ofString "_law_pot") (.cons (.var 0) (.cons (.var 1) .nil))) .nil)) (t := .nm 1) (it := .seq (.call 30 (Str.ofString "_law_cells") (.cons (.var 0) (.cons (.cst (.int 3)) .nil)))) (σ := [some (.ref 0), none]) (h := h ++ [.lst ((List.range k).map fun (i : Nat) => .int (i : Int))]) (xs := List.range k) (enc := fun i => .int (i : Int)) (f := fun _ => .bl true) (g := [(h.length, .lst ((List.range k).map fun (i : Nat) => .int (i : Int)))]) (h0 := h) (by
      have e : eX (GA 20) (.call 30 (Str.ofString "_law_cells") (.cons (.var 0) (.cons (.cst (.int 3)) .nil))) [some (.ref 0), none] h = .ok (.ref h.length) (h ++ [.lst ((List.range k).map fun (i : Nat) => .int (i : Int))]) := by
        rw [ex_call, exs_cons, ex_var, show getS [some (.ref 0), none] 0 = some (.ref 0) from rfl, ofO_some, bind_ok, exs_cons, ex_cst, bind_ok, exs_nil, bind_ok, bind_ok, bind_ok, GA_call]
        exact ec
      rw [eit_seq, e, bind_ok, src_ref at_end]) (fun p hp => by simp at hp; subst hp; exact at_end) (by rw [List.length_range]; exact sz (by omega)) fun i hi => ⟨[some (.ref 0), some (.int (i : Int))], rfl, fun u => by
      have hi' : i < k := List.mem_range.mp hi
      obtain ⟨own, sm, e1, P⟩ := c_law_pot (h := h ++ [.lst ((List.range k).map fun (i : Nat) => .int (i : Int))] ++ u) (ns := ns) (pl := (i : Int)) (by rw [List.append_assoc]; exact h0 _) (by omega) (by omega) (by omega) 19
      obtain ⟨H', e2, U⟩ := c_right (n := 0) ⟨_, _, _, P⟩ (by omega) 12
      obtain ⟨c', rfl⟩ := upd_end U
      refine ⟨[c'], ?_⟩
      rw [← List.append_assoc]
      have e3 : eX (GA 20) (.call 27 (Str.ofString "_law_pot") (.cons (.var 0) (.cons (.var 1) .nil))) [some (.ref 0), some (.int (i : Int))] (h ++ [.lst ((List.range k).map fun (i : Nat) => .int (i : Int))] ++ u) = .ok (.ref (h ++ [Ce.lst ((List.range k).map fun (i : Nat) => .int (i : Int))] ++ u).length) (h ++ [.lst ((List.range k).map fun (i : Nat) => .int (i : Int))] ++ u ++ [.lst [.int own, .int sm, .int 0]]) := by
        rw [ex_call, exs_cons, ex_var, show getS [some (.ref 0), some (.int (i : Int))] 0 = some (.ref 0) from rfl, ofO_some, bind_ok, exs_cons, ex_var, show getS [some (.ref 0), some (.int (i : Int))] 1 = some (.int (i : Int)) from rfl, ofO_some, bind_ok, exs_nil, bind_ok, bind_ok, bind_ok, GA_call]
        exact e1
      rw [ex_call, exs_cons, e3, bind_ok, exs_nil, bind_ok, bind_ok, GA_call]
      exact e2⟩
  have lc' : eX (GA 20) x_law_1 [some (.ref 0), none] h = .ok (.ref (h ++ [Ce.lst ((List.range k).map fun (i : Nat) => .int (i : Int))]).length) (h ++ [.lst ((List.range k).map fun (i : Nat) => .int (i : Int))] ++ .lst ((List.range k).map fun _ => .bl true) :: v) := lc
  have hb : i_law.body = .cons (.ret (.gc (.bi .all (.cons x_law_1 .nil)))) .nil := rfl
  have e4 : eX (GA 20) (.gc (.bi .all (.cons x_law_1 .nil))) [some (.ref 0), none] h = .ok (.bl true) h := by
    rw [ex_gc, ex_bi_of (by rw [exs_cons, lc', bind_ok, exs_nil, bind_ok]) (all_mid (List.range k)), List.append_assoc]
    exact gc2_bl
  have s : eS (GA 20) (.ret (.gc (.bi .all (.cons x_law_1 .nil)))) [some (.ref 0), none] h = .ok (.rt (.bl true)) h := by
    rw [es_ret, e4, bind_ok]
  refine ⟨h, ?_⟩
  rw [n_law, hb, seq_rt s, handed_rt]
end Vy
set_option maxHeartbeats 0
namespace Vy
open PySem PySem.Spec PyProof.Rows L2
theorem main0 : ∀ ns : List Int, ns.length ≤ 63 → ∃ hE, callN (defsOf tF) (gvOf (tC.map fun p => (p.1, p.2.va))) (20 + 1) q_law.dd.name [.ref 0] [.frz (ns.map Va.int)] = .ok (.bl true) hE := by
  intro ns hl
  rw [defs_D, gv_D]
  exact main_law ns hl
end Vy
open PySem PySem.W PySem.Calls PyProof.Rows
theorem Vy.fin0 : Vy.RW0.Holds := Vy.holds_T Vy.run0 Vy.b1 Vy.b2 Vy.b3 Vy.b4 Vy.b5 Vy.b6 Vy.b7 Vy.b8 Vy.b9 Vy.b10 rfl (by decide) Vy.hdf0 Vy.room0 Vy.tChk Vy.tNod Vy.memL Vy.hps0 Vy.hnm0 Vy.main0
theorem PySem.Challenge.cw_allcoursesfit_k14_whole_fulfils_and_sour_holds : PySem.Challenge.rw_allcoursesfit_k14_whole_fulfils_and_sour.Holds := by
  w_on; o_law
  exact Vy.fin0
