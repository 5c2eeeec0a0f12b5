import PyProof.Rows.All
import Wide.All
import OpenK.AllK
import Wide.FinOn
import HandS.ForMost
import HandS.ForExc
import HandS.Wide
import HandS.WideMore
import HandS.Conv
import HandS.RevRange
import HandS.Rev
import HandS.Zip
import HandS.Walk
import HandS.Deep
import HandS.IsInst
import HandS.TupAny
import HandS.TupMul
import HandS.Style
import HandS.Sort
import HandS.SortInts
import HandS.ExcInit
import HandS.ExcField
import HandS.ExcIs
import HandS.TupLe
import HandS.NoneIn
import KE.GoesEnum
import KE.KExcIs
import HandS.ExcOwn
import KE.DataCmp
import KE.SortData
import KE.KDictZip
import PyProof.ListNew
import PyProof.LongRange
import PyProof.ListRange
import HandS.SetFor
import HandS.More
import PyProof.Rows.SortShellAny
import HandS.TupSets
import HandS.Small
import HandS.WordsDict
import KE.KEqDict
import KE.OsSetLaws
import HandS.Iter
import HandS.ClsMeth
import PySem.Challenge.RW_mixedscales_k54_rounds_spoilt_twice
set_option Elab.async false
set_option linter.all false
set_option maxRecDepth 100000
set_option maxHeartbeats 4000000
/-! A small core language with value semantics: data are PyData, lists are values; the walk of the given programs is led back to it once and for all. -/
namespace MS
open PySem

abbrev D := PyData

/-- what a name may do with its list: shared lists are never changed, owned ones may be (their items by the inner word) -/
inductive Perm where
  | sh
  | own (p : Perm)
  | raw
  deriving DecidableEq, Repr

/-- may it be shared -/
def Perm.cl1 : Perm → Bool
  | .sh => true
  | .own p => p.cl1
  | .raw => false
def Perm.clean : Perm → Bool
  | .own p => p.cl1
  | _ => true
/-- as it is handed on -/
def Perm.fz : Perm → Perm
  | .raw => .raw
  | .sh => .sh
  | .own p => if p.cl1 = true then .sh else .own p

structure Ety where
  p : Perm
  d : D

abbrev Rho := List (Option Ety)

/-- an exception: its class by name, its fields -/
structure Ex where
  cls : String
  fs : List (String × D)
/-- the classes of what is refused -/
def allC : List String := ["ScaleError", "NoPlace", "TooGreat", "TooSmall", "NoOrder", "NoEnd", "NoAsk", "NoDigit"]
/-- .. as a datum -/
def excKv (x : Ex) : List (D × D) := (.none, .int (allC.idxOf x.cls)) :: x.fs.map fun f => (.none, f.2)
def excD (x : Ex) : D := .dict (excKv x)
/-- a def as a datum -/
def fnKv (f : String) : List (D × D) := [(.str (Str.ofString f), .none)]
def fnD (f : String) : D := .dict (fnKv f)
/-- is c the class d, or one under it -/
def subX (c d : String) : Bool := d == c || d == "ScaleError" || d == "ValueError"
/-- the class that a datum tells of, and its place -/
def exCls : D → Option String
  | .dict ((.none, .int i) :: _) => allC[i.toNat]?
  | _ => none
def exPl : D → Option Int
  | .dict [(.none, .int _), (.none, .int i)] => some i
  | _ => none
theorem exCls_kv {c : String} {fs : List (String × D)} (h : c ∈ allC) : exCls (excD ⟨c, fs⟩) = some c := by
  have h1 : allC.idxOf c < allC.length := List.idxOf_lt_length_of_mem h
  show allC[((allC.idxOf c : Nat) : Int).toNat]? = some c
  rw [Int.toNat_natCast, List.getElem?_eq_getElem h1, List.getElem_idxOf h1]
theorem idx_inj : ∀ c ∈ allC, ∀ s : String, allC.idxOf s = allC.idxOf c → s = c := by
  intro c hc s h
  have h1 : allC.idxOf s < allC.length := by rw [h]; exact List.idxOf_lt_length_of_mem hc
  have h2 : allC[allC.idxOf s]'h1 = s := List.getElem_idxOf h1
  have h3 : allC[allC.idxOf c]'(by rw [← h]; exact h1) = c := List.getElem_idxOf _
  rw [← h2, ← h3]
  congr 1
theorem excD_inj0 {x : Ex} {c : String} (hc : c ∈ allC) (h : excKv x = excKv ⟨c, []⟩) : x.cls = c ∧ x.fs = [] := by
  obtain ⟨d, fs⟩ := x
  unfold excKv at h
  simp only [List.cons.injEq, Prod.mk.injEq, true_and, PyData.int.injEq, List.map_nil, List.map_eq_nil_iff] at h
  exact ⟨idx_inj c hc d (by omega), h.2⟩
theorem excD_inj1 {x : Ex} {c n : String} {y : D} (hc : c ∈ allC) (h : excKv x = excKv ⟨c, [(n, y)]⟩) : x.cls = c ∧ ∃ m, x.fs = [(m, y)] := by
  obtain ⟨d, fs⟩ := x
  unfold excKv at h
  simp only [List.cons.injEq, Prod.mk.injEq, true_and, PyData.int.injEq, List.map_cons, List.map_nil] at h
  refine ⟨idx_inj c hc d (by omega), ?_⟩
  obtain ⟨_, h⟩ := h
  cases fs with
  | nil => simp at h
  | cons f fs =>
    cases fs with
    | nil =>
      obtain ⟨m, z⟩ := f
      simp at h
      exact ⟨m, by rw [h]⟩
    | cons g fs => simp at h
/-- the names that a text may call: its defs, its classes of exceptions; may it do what asks for no handled exception -/
structure Fs where
  defs : List String
  cls : List String
  calm : Bool

@[simp] def isScal : D → Bool
  | .none => true
  | .bool _ => true
  | .int _ => true
  | .str _ => true
  | _ => false

/-- are the items of such a list shared -/
def Perm.el : Perm → Bool
  | .sh => true
  | .own .sh => true
  | .raw => true
  | _ => false
/-- .. and is it a list of the call's own -/
def Perm.tr : Perm → Bool
  | .sh => true
  | .own .sh => true
  | _ => false

inductive Prim where
  | add | sub | mul | fdiv | mod | pow | shl | neg
  | eq | ne | lt | le | gt | ge | isin | notin | isN | notN | isB | notB
  | ix | ixr | sl (lo hi : Bool) | bk
  | len | tuple | list | lrg1 | lrg2 | lrg3 | lrgW | trg1 | trg2 | abs | max2 | min2 | max1 | min1 | sum | sorted | int | isi (t : String) | all
  deriving DecidableEq, Repr

inductive Tg where
  | name (i : Nat)
  | tup (is : List Nat)
/-- plain reckoning: written numbers, names, sums -/
inductive A where
  | lit (n : Int) | nm (i : Nat) | add (a b : A) | sub (a b : A)
/-- plain reckoning with the lengths of a name's own lists -/
inductive B where
  | a (x : A) | add (x y : B) | sub (x y : B) | min (x y : B) | max (x y : B) | len1 (i : Nat) (k : A)

/-- what is done with dicts that have whole numbers as keys -/
inductive DO where
  | newI | newO | new1 | din (neg : Bool) (i : Nat) | dinO (neg : Bool) (i : Nat) | dgt (i : Nat) | dcpy (i : Nat) | dsrt (i : Nat) | dpop (i : Nat) | deq (neg : Bool) (i j : Nat) | lset | dlen | dgd (i : Nat) | dfrom | lsetT
mutual
inductive E where
  | var (i : Nat) | mv (i : Nat) | pk (i : Nat)
  | int (n : Int) | bl (b : Bool) | non | str (s : String)
  | frz (e : E)
  | prim (p : Prim) (as : Es)
  | tup (as : Es) | lst (as : Es) | lstO (as : Es) | lstR (as : Es)
  | call (f : String) (as : Es)
  | and (a b : E) | or (a b : E) | not (a : E) | ite (c a b : E)
  | chain (o1 o2 : Prim) (a b c : E)
  | comp (t : Tg) (it : I) (c : E) (e : E)
  | pop (i : Nat) | popAt (i : Nat) (e : E)
  | cut (a : Es) (b c : E)
  | isx (e : E) (cs : List String) | fld (e : E) (n : String) | zipL (a b : E)
  | ix2 (i : Nat) (a b : A) | len1 (i : Nat) (a : A) | idx (i : Nat) (e : E)
  | zcat (i : Nat) (a : A) (b : B) | hcat (i : Nat) (a : A) (e : E)
  | dop (o : DO) (k e : E)
  | fnv (f : String) | callv (i : Nat) (fs : List String) (as : Es) | exc (c : String) | excF (c n : String) (e : E) | callL (f : String) (i : Nat) | sset (e : E)
  | dnewT | tupT (as : Es) | kin (neg : Bool) (i j : Nat) | dix (i j : Nat)
inductive Es where
  | nil
  | cons (e : E) (es : Es)
inductive I where
  | seq (e : E)
  | rng1 (a : E) | rng2 (a b : E) | rng3 (a b c : E) | rngW (a b : E) | rngS (a b c : E)
  | revR (a : E) | revR2 (a b : E) | rev (e : E) | enum (e : E) | zip (a b : E)
end

inductive DS where
  | forI (n r : Nat) | setd (i : Nat) | swpd (i : Nat) (a b : A) | setdO (i : Nat) (a : A) | appd (i : Nat) (a e : A) | forD (i n r : Nat) | ins (i : Nat) (a : A) | setsl (i : Nat) (lo hi : A) | swpl (i : Nat) (a b : A)
mutual
inductive S where
  | expr (e : E)
  | set (i : Nat) (e : E)
  | unp (is : List Nat) (e : E)
  | par (i j : Nat) (a b : E)
  | aug (i : Nat) (o : Prim) (e : E)
  | app (i : Nat) (e : E)
  | app1 (i : Nat) (k e : A)
  | ext (i : Nat) (e : E)
  | extT (i : Nat) (e : E)
  | setix (i : Nat) (k e : E)
  | setix1 (i : Nat) (k1 k2 : A) (e : E)
  | setk (i j : Nat) (e : E)
  | setO (i : Nat) (t : Tg) (it : I) (c e : E)
  | swp1 (i : Nat) (a b c : A)
  | dst (o : DS) (k e : E) (b : Ss)
  | rvs (i : Nat)
  | clr (i : Nat)
  | ife (c : E) (a b : Ss)
  | for_ (t : Tg) (it : I) (b : Ss)
  | forA (s i j : Nat) (e : E) (b : Ss)
  | whl (c : E) (b : Ss)
  | ret (e : E) | retN | brk | cont | pass | never
  | raise (c : String)
  | raiseF (c : String) (n : String) (e : E)
  | try_ (b : Ss) (c : String) (i : Option Nat) (h : Ss)
inductive Ss where
  | nil
  | cons (s : S) (ss : Ss)
end

abbrev S.forI (n r : Nat) (e : E) (b : Ss) : S := .dst (.forI n r) e .non b
abbrev S.swpl (i : Nat) (a b : A) : S := .dst (.swpl i a b) .non .non .nil
abbrev S.ins (i : Nat) (a : A) (e : E) : S := .dst (.ins i a) .non e .nil
abbrev S.setsl (i : Nat) (lo hi : A) (e : E) : S := .dst (.setsl i lo hi) .non e .nil
abbrev S.setd (i : Nat) (k e : E) : S := .dst (.setd i) k e .nil
abbrev S.swpd (i : Nat) (a b : A) : S := .dst (.swpd i a b) .non .non .nil
abbrev S.setdO (i : Nat) (a : A) : S := .dst (.setdO i a) .non .non .nil
abbrev S.appd (i : Nat) (a e : A) : S := .dst (.appd i a e) .non .non .nil
abbrev S.forD (i n r : Nat) (b : Ss) : S := .dst (.forD i n r) .non .non b
abbrev E.dnewI : E := .dop .newI .non .non
abbrev E.dnewO : E := .dop .newO .non .non
abbrev E.dnew1 (k e : E) : E := .dop .new1 k e
abbrev E.din (neg : Bool) (i : Nat) (k : E) : E := .dop (.din neg i) k .non
abbrev E.dinO (neg : Bool) (i : Nat) (k : E) : E := .dop (.dinO neg i) k .non
abbrev E.dgt (i : Nat) (k : E) : E := .dop (.dgt i) k .non
abbrev E.dcpy (i : Nat) : E := .dop (.dcpy i) .non .non
abbrev E.dsrt (i : Nat) : E := .dop (.dsrt i) .non .non
abbrev E.dpop (i : Nat) (k : E) : E := .dop (.dpop i) k .non
abbrev E.deq (neg : Bool) (i j : Nat) : E := .dop (.deq neg i j) .non .non
abbrev E.lset (e : E) : E := .dop .lset e .non
abbrev E.lsetT (e : E) : E := .dop .lsetT e .non
abbrev E.dgd (i : Nat) (k : E) : E := .dop (.dgd i) k .non
abbrev E.dfrom (e : E) : E := .dop .dfrom e .non
abbrev E.dlen (e : E) : E := .dop .dlen e .non
/-! ### values -/
abbrev sh (d : D) : Ety := ⟨.sh, d⟩
abbrev ownL (d : D) : Ety := ⟨.own .sh, d⟩
def isz (i : Int) : Bool := decide (-(2 ^ 62) ≤ i ∧ i < 2 ^ 62)

def intsD (ns : List Int) : List D := ns.map .int
/-- the primitive operations; what they hand on -/
@[simp] def pAdd : List Ety → (Ety → Prop) → Prop
  | [⟨_, .int a⟩, ⟨_, .int b⟩], Q => Q (sh (.int (a + b)))
  | [⟨_, .tuple xs⟩, ⟨_, .tuple ys⟩], Q => xs.length + ys.length ≤ sizeLine ∧ Q (sh (.tuple (xs ++ ys)))
  | [⟨p, .list xs⟩, ⟨q, .list ys⟩], Q => p.tr = true ∧ q.tr = true ∧ xs.length + ys.length ≤ sizeLine ∧ Q (ownL (.list (xs ++ ys)))
  | _, _ => False
@[simp] def pSub : List Ety → (Ety → Prop) → Prop
  | [⟨_, .int a⟩, ⟨_, .int b⟩], Q => Q (sh (.int (a - b)))
  | _, _ => False
def MulOk (a b : Int) : Prop := L2.CMul a b ∨ L2.CMulW a b
@[simp] def pMul : List Ety → (Ety → Prop) → Prop
  | [⟨_, .int a⟩, ⟨_, .int b⟩], Q => MulOk a b ∧ Q (sh (.int (a * b)))
  | [⟨p, .list xs⟩, ⟨_, .int k⟩], Q => p.tr = true ∧ -(2 ^ 62) ≤ k ∧ k < 2 ^ 62 ∧ xs.length * k.toNat ≤ sizeLine ∧ Q (ownL (.list (List.replicate k.toNat xs).flatten))
  | [⟨_, .tuple xs⟩, ⟨_, .int k⟩], Q => -(2 ^ 62) ≤ k ∧ k ≤ 1000 ∧ (xs.length ≤ 1000 ∨ k ≤ 1) ∧ Q (sh (.tuple (List.replicate k.toNat xs).flatten))
  | _, _ => False
def DivOk (a b : Int) : Prop := L2.CDiv a b ∨ L2.CDivW a b
@[simp] def pFdiv : List Ety → (Ety → Prop) → Prop
  | [⟨_, .int a⟩, ⟨_, .int b⟩], Q => DivOk a b ∧ Q (sh (.int (a / b)))
  | _, _ => False
@[simp] def pMod : List Ety → (Ety → Prop) → Prop
  | [⟨_, .int a⟩, ⟨_, .int b⟩], Q => 0 < b ∧ Q (sh (.int (a % b)))
  | _, _ => False
@[simp] def pPow : List Ety → (Ety → Prop) → Prop
  | [⟨_, .int a⟩, ⟨_, .int b⟩], Q => L2.CPow a b ∧ Q (sh (.int (a ^ b.toNat)))
  | _, _ => False
@[simp] def pShl : List Ety → (Ety → Prop) → Prop
  | [⟨_, .int a⟩, ⟨_, .int b⟩], Q => L2.CPow a b ∧ Q (sh (.int (a * 2 ^ b.toNat)))
  | _, _ => False
@[simp] def pNeg : List Ety → (Ety → Prop) → Prop
  | [⟨_, .int a⟩], Q => Q (sh (.int (-a)))
  | _, _ => False
@[simp] def pEq : List Ety → (Ety → Prop) → Prop
  | [a, b], Q => SeqAt.shaped a.d = true ∧ SeqAt.shaped b.d = true ∧ Q (sh (.bool (PyData.eqv a.d b.d)))
  | _, _ => False
@[simp] def pNe : List Ety → (Ety → Prop) → Prop
  | [a, b], Q => SeqAt.shaped a.d = true ∧ SeqAt.shaped b.d = true ∧ Q (sh (.bool (!PyData.eqv a.d b.d)))
  | _, _ => False
@[simp] def pCmp (f : Int → Int → Bool) : List Ety → (Ety → Prop) → Prop
  | [⟨_, .int a⟩, ⟨_, .int b⟩], Q => Q (sh (.bool (f a b)))
  | _, _ => False
/-- < of two rows -/
def lexLt : List Int → List Int → Bool
  | _, [] => false
  | [], _ :: _ => true
  | x :: xs, y :: ys => if x = y then lexLt xs ys else decide (x < y)
def pLt : List Ety → (Ety → Prop) → Prop
  | [⟨_, .int a⟩, ⟨_, .int b⟩], Q => Q (sh (.bool (decide (a < b))))
  | [⟨_, .tuple xs⟩, ⟨_, .tuple ys⟩], Q => ∃ ns ms, xs = intsD ns ∧ ys = intsD ms ∧ Q (sh (.bool (lexLt ns ms)))
  | [⟨p, .list xs⟩, ⟨q, .list ys⟩], Q => ∃ ns ms, xs = intsD ns ∧ ys = intsD ms ∧ p ≠ .raw ∧ q ≠ .raw ∧ Q (sh (.bool (lexLt ns ms)))
  | _, _ => False
def pLe : List Ety → (Ety → Prop) → Prop
  | [⟨_, .int a⟩, ⟨_, .int b⟩], Q => Q (sh (.bool (decide (a ≤ b))))
  | [⟨_, .tuple xs⟩, ⟨_, .tuple ys⟩], Q => ∃ ns ms, xs = intsD ns ∧ ys = intsD ms ∧ Q (sh (.bool (!lexLt ms ns)))
  | _, _ => False
@[simp] def pIn (neg : Bool) : List Ety → (Ety → Prop) → Prop
  | [a, ⟨_, .list xs⟩], Q => SeqAt.shaped a.d = true ∧ SeqAt.shaped (.list xs) = true ∧ Q (sh (.bool (Bool.xor neg (xs.any fun z => PyData.eqv z a.d))))
  | [⟨_, .int i⟩, ⟨_, .tuple xs⟩], Q => xs.all isScal = true ∧ Q (sh (.bool (Bool.xor neg (xs.any fun z => PyData.eqv z (.int i)))))
  | _, _ => False
@[simp] def isNon : D → Bool
  | .none => true
  | _ => false
@[simp] def pIsN (neg : Bool) : List Ety → (Ety → Prop) → Prop
  | [a], Q => Q (sh (.bool (Bool.xor neg (isNon a.d))))
  | _, _ => False
@[simp] def pIsB (neg : Bool) : List Ety → (Ety → Prop) → Prop
  | [⟨_, .bool a⟩, ⟨_, .bool b⟩], Q => Q (sh (.bool (Bool.xor neg (decide (a = b)))))
  | _, _ => False
@[simp] def pIx : List Ety → (Ety → Prop) → Prop
  | [⟨p, .list xs⟩, ⟨_, .int i⟩], Q => ∃ d, L2.atI xs i = some d ∧ (p.el = true ∨ isScal d = true) ∧ Q (sh d)
  | [⟨_, .tuple xs⟩, ⟨_, .int i⟩], Q => ∃ d, L2.atI xs i = some d ∧ Q (sh d)
  | _, _ => False
/-- .. of a list that holds what is only read -/
@[simp] def pIxr : List Ety → (Ety → Prop) → Prop
  | [⟨.own .raw, .list xs⟩, ⟨_, .int i⟩], Q => ∃ d, L2.atI xs i = some d ∧ Q ⟨if isScal d = true then .sh else .raw, d⟩
  | _, _ => False
def cutD {α : Type} (xs : List α) (lo hi : Option Int) : List α := (xs.drop (HT.sIx xs.length 0 lo)).take (HT.sIx xs.length xs.length hi - HT.sIx xs.length 0 lo)
/-- a slice, by its parts -/
@[simp] def pSlv (e : Ety) (l h : Option Int) (Q : Ety → Prop) : Prop := match e with
  | ⟨p, .list xs⟩ => p.el = true ∧ Q (ownL (.list (cutD xs l h)))
  | ⟨_, .tuple xs⟩ => Q (sh (.tuple (cutD xs l h)))
  | _ => False
@[simp] def pSl : Bool → Bool → List Ety → (Ety → Prop) → Prop
  | false, false, [x], Q => pSlv x none none Q
  | true, false, [x, ⟨_, .int l⟩], Q => pSlv x (some l) none Q
  | false, true, [x, ⟨_, .int h⟩], Q => pSlv x none (some h) Q
  | _, _, _, _ => False
@[simp] def pBk : List Ety → (Ety → Prop) → Prop
  | [⟨p, .list xs⟩], Q => p.el = true ∧ Q (ownL (.list xs.reverse))
  | [⟨_, .tuple xs⟩], Q => Q (sh (.tuple xs.reverse))
  | _, _ => False
@[simp] def pLen : List Ety → (Ety → Prop) → Prop
  | [⟨_, .list xs⟩], Q => Q (sh (.int xs.length))
  | [⟨_, .tuple xs⟩], Q => Q (sh (.int xs.length))
  | _, _ => False
@[simp] def pTuple : List Ety → (Ety → Prop) → Prop
  | [⟨p, .list xs⟩], Q => p.el = true ∧ Q (sh (.tuple xs))
  | [⟨_, .tuple xs⟩], Q => Q (sh (.tuple xs))
  | _, _ => False
@[simp] def pList : List Ety → (Ety → Prop) → Prop
  | [⟨p, .list xs⟩], Q => p.el = true ∧ Q (ownL (.list xs))
  | [⟨_, .tuple xs⟩], Q => Q (ownL (.list xs))
  | _, _ => False
/-- a dict with rows as keys: a mark stands before its pairs -/
def dT (hk : List (List Int × D)) : D := .dict ((.bool true, .none) :: hk.map fun p => (.tuple (intsD p.1), p.2))
def gK {α : Type} (hk : List (List Int × α)) (l : List Int) : Option α := (hk.find? fun z => decide (z.1 = l)).map (·.2)
def pK {α : Type} (hk : List (List Int × α)) (l : List Int) (d : α) : List (List Int × α) :=
  if (hk.any fun z => decide (z.1 = l)) = true then hk.map (fun z => if z.1 = l then (z.1, d) else z) else hk ++ [(l, d)]
/-- a dict with whole numbers as keys -/
def dI (hk : List (Int × D)) : D := .dict (hk.map fun p => (.int p.1, p.2))
def gI {α : Type} (hk : List (Int × α)) (l : Int) : Option α := (hk.find? fun z => decide (z.1 = l)).map (·.2)
def pI {α : Type} (hk : List (Int × α)) (l : Int) (d : α) : List (Int × α) :=
  if (hk.any fun z => decide (z.1 = l)) = true then hk.map (fun z => if z.1 = l then (z.1, d) else z) else hk ++ [(l, d)]
/-- a key and its datum -/
def pairD (hk : List (Int × D)) (p : Int × D) : D := .tuple [.int p.1, (gI hk p.1).getD .none]
/-- the first entry's datum other -/
def seI {α : Type} : List (Int × α) → Int → α → List (Int × α)
  | [], _, _ => []
  | p :: r, n, d => if p.1 = n then (p.1, d) :: r else p :: seI r n d
/-- scalars and tuples of such -/
def flatD : D → Bool
  | .tuple xs => xs.all isScal
  | d => isScal d
def flatR (ρ : List (Option Ety)) : Bool := ρ.all fun o => match o with
  | none => true
  | some e => decide (e.p = .sh) && flatD e.d
def dropI {α : Type} (hk : List (Int × α)) (l : Int) : List (Int × α) := hk.filter fun z => decide (z.1 ≠ l)
def rgD (a b : Int) : List D := (List.range (b - a).toNat).map fun i => .int (a + (i : Nat))
/-- range(a, b, k), k > 0 -/
def stD (a b k : Int) : List D := (List.range (if a < b then (b - a - 1) / k + 1 else 0).toNat).map fun i => .int (a + (i : Nat) * k)
def dnD (a b : Int) : List D := (List.range (a - b).toNat).map fun i => .int (a - (i : Nat))
@[simp] def pLrg : List Ety → (Ety → Prop) → Prop
  | [⟨_, .int b⟩], Q => L2.RgOk 0 b ∧ Q (ownL (.list (rgD 0 b)))
  | [⟨_, .int a⟩, ⟨_, .int b⟩], Q => L2.RgOk a b ∧ Q (ownL (.list (rgD a b)))
  | _, _ => False
@[simp] def pLrgW : List Ety → (Ety → Prop) → Prop
  | [⟨_, .int a⟩, ⟨_, .int b⟩], Q => (b - a).toNat ≤ 16777216 ∧ Q (ownL (.list (rgD a b)))
  | _, _ => False
@[simp] def pTrg : List Ety → (Ety → Prop) → Prop
  | [⟨_, .int b⟩], Q => L2.RgOk 0 b ∧ Q (sh (.tuple (rgD 0 b)))
  | [⟨_, .int a⟩, ⟨_, .int b⟩], Q => L2.RgOk a b ∧ Q (sh (.tuple (rgD a b)))
  | _, _ => False
@[simp] def pAbs : List Ety → (Ety → Prop) → Prop
  | [⟨_, .int a⟩], Q => Q (sh (.int (if a < 0 then -a else a)))
  | _, _ => False
@[simp] def pMax2 : List Ety → (Ety → Prop) → Prop
  | [⟨_, .int a⟩, ⟨_, .int b⟩], Q => Q (sh (.int (if b > a then b else a)))
  | _, _ => False
@[simp] def pMin2 : List Ety → (Ety → Prop) → Prop
  | [⟨_, .int a⟩, ⟨_, .int b⟩], Q => Q (sh (.int (if b < a then b else a)))
  | _, _ => False
def pMax1 : List Ety → (Ety → Prop) → Prop
  | [⟨_, .list xs⟩], Q => ∃ ns m, xs = intsD ns ∧ m ∈ ns ∧ (∀ y ∈ ns, y ≤ m) ∧ Q (sh (.int m))
  | [⟨_, .tuple xs⟩], Q => ∃ ns m, xs = intsD ns ∧ m ∈ ns ∧ (∀ y ∈ ns, y ≤ m) ∧ Q (sh (.int m))
  | _, _ => False
def pMin1 : List Ety → (Ety → Prop) → Prop
  | [⟨_, .list xs⟩], Q => ∃ ns m, xs = intsD ns ∧ m ∈ ns ∧ (∀ y ∈ ns, m ≤ y) ∧ Q (sh (.int m))
  | [⟨_, .tuple xs⟩], Q => ∃ ns m, xs = intsD ns ∧ m ∈ ns ∧ (∀ y ∈ ns, m ≤ y) ∧ Q (sh (.int m))
  | _, _ => False
def pSum : List Ety → (Ety → Prop) → Prop
  | [⟨_, .list xs⟩], Q => ∃ ns, xs = intsD ns ∧ Q (sh (.int ns.sum))
  | [⟨_, .tuple xs⟩], Q => ∃ ns, xs = intsD ns ∧ Q (sh (.int ns.sum))
  | _, _ => False
def pSorted : List Ety → (Ety → Prop) → Prop
  | [⟨_, .list xs⟩], Q => ∃ ns, xs = intsD ns ∧ Q (ownL (.list (intsD (ns.mergeSort (· ≤ ·)))))
  | [⟨_, .tuple xs⟩], Q => ∃ ns, xs = intsD ns ∧ Q (ownL (.list (intsD (ns.mergeSort (· ≤ ·)))))
  | _, _ => False
@[simp] def pInt : List Ety → (Ety → Prop) → Prop
  | [⟨_, .int a⟩], Q => Q (sh (.int a))
  | [⟨_, .bool a⟩], Q => Q (sh (.int (if a then 1 else 0)))
  | _, _ => False
@[simp] def tyName : D → String
  | .none => "NoneType"
  | .bool _ => "bool"
  | .int _ => "int"
  | .str _ => "str"
  | .list _ => "list"
  | .tuple _ => "tuple"
  | .dict _ => "dict"
@[simp] def isTy (t : String) (d : D) : Bool := t == tyName d || (t == "int" && tyName d == "bool")
@[simp] def isDct : D → Bool
  | .dict _ => true
  | _ => false
@[simp] def pIsi (t : String) : List Ety → (Ety → Prop) → Prop
  | [a], Q => isDct a.d = false ∧ Q (sh (.bool (isTy t a.d)))
  | _, _ => False
def pAll : List Ety → (Ety → Prop) → Prop
  | [⟨_, .list xs⟩], Q => ∃ bs : List Bool, xs = bs.map .bool ∧ Q (sh (.bool (bs.all id)))
  | _, _ => False

@[simp] def wpP : Prim → List Ety → (Ety → Prop) → Prop
  | .add => pAdd | .sub => pSub | .mul => pMul | .fdiv => pFdiv | .mod => pMod | .pow => pPow | .shl => pShl | .neg => pNeg
  | .eq => pEq | .ne => pNe
  | .lt => pLt
  | .le => pLe
  | .gt => pCmp fun a b => decide (b < a)
  | .ge => pCmp fun a b => decide (b ≤ a)
  | .isin => pIn false | .notin => pIn true | .isN => pIsN false | .notN => pIsN true | .isB => pIsB false | .notB => pIsB true
  | .ix => pIx | .ixr => pIxr | .sl lo hi => pSl lo hi | .bk => pBk
  | .len => pLen | .tuple => pTuple | .list => pList | .lrg1 => pLrg | .lrg2 => pLrg | .lrg3 => fun _ _ => False | .lrgW => pLrgW | .trg1 => pTrg | .trg2 => pTrg
  | .abs => pAbs | .max2 => pMax2 | .min2 => pMin2 | .max1 => pMax1 | .min1 => pMin1 | .sum => pSum | .sorted => pSorted | .int => pInt | .isi t => pIsi t | .all => pAll

/-! ### names -/
def Rho.at (ρ : Rho) (i : Nat) : Option Ety := (ρ[i]?).join
/-- an argument: a value, or a name that is looked at (or handed on) when all are reckoned -/
inductive AV where
  | val (e : Ety)
  | pk (i : Nat)
@[simp] def AV.look (ρ : Rho) : AV → Option Ety
  | .val e => some e
  | .pk i => ρ.at i
@[simp] def looks (ρ : Rho) : List AV → Option (List Ety)
  | [] => some []
  | a :: as => match a.look ρ, looks ρ as with
    | some e, some es => some (e :: es)
    | _, _ => none
/-- which arguments are names handed on -/
def AV.isPk : AV → Bool
  | .val _ => false
  | .pk _ => true
@[simp] def pkI : List AV → List Nat
  | [] => []
  | .val _ :: as => pkI as
  | .pk i :: as => i :: pkI as
@[simp] def puts (ρ : Rho) : List AV → List D → Option Rho
  | [], [] => some ρ
  | .val _ :: as, os => puts ρ as os
  | .pk i :: as, o :: os => match ρ.at i with
    | some e => puts (ρ.set i (some ⟨e.p, o⟩)) as os
    | none => none
  | _, _ => none
@[simp] def kills (ρ : Rho) : List AV → Rho
  | [] => ρ
  | .val _ :: as => kills ρ as
  | .pk i :: as => kills (ρ.set i none) as
def shV : List AV → Option (List D)
  | [] => some []
  | .val ⟨.sh, d⟩ :: as => (shV as).map (d :: ·)
  | _ => none

@[simp] def evA (ρ : Rho) : A → Option Int
  | .lit n => some n
  | .nm i => match ρ.at i with
    | some ⟨_, .int n⟩ => some n
    | _ => none
  | .add a b => match evA ρ a, evA ρ b with
    | some m, some n => some (m + n)
    | _, _ => none
  | .sub a b => match evA ρ a, evA ρ b with
    | some m, some n => some (m - n)
    | _, _ => none
/-- a list of the name's own list of lists -/
def onNst (ρ : Rho) (i : Nat) (a : A) (f : List D → Nat → List D → Prop) : Prop := match ρ.at i, evA ρ a with
  | some ⟨.own (.own .sh), .list xs⟩, some j => ∃ n ys, L2.ixN xs.length j = some n ∧ xs[n]? = some (.list ys) ∧ f xs n ys
  | _, _ => False
@[simp] def evB (ρ : Rho) : B → Option Int
  | .a x => evA ρ x
  | .add x y => match evB ρ x, evB ρ y with
    | some m, some n => some (m + n)
    | _, _ => none
  | .sub x y => match evB ρ x, evB ρ y with
    | some m, some n => some (m - n)
    | _, _ => none
  | .min x y => match evB ρ x, evB ρ y with
    | some m, some n => some (if n < m then n else m)
    | _, _ => none
  | .max x y => match evB ρ x, evB ρ y with
    | some m, some n => some (if n > m then n else m)
    | _, _ => none
  | .len1 i a => match ρ.at i, evA ρ a with
    | some ⟨.own (.own .sh), .list xs⟩, some j => match L2.ixN xs.length j with
      | some n => match xs[n]? with
        | some (.list ys) => some ys.length
        | _ => none
      | none => none
    | _, _ => none
abbrev QE := Ety → Rho → Prop
abbrev XE := Ex → Rho → Prop
abbrev Spec := List Bool → List Ety → (Ety → List D → Prop) → (Ex → Prop) → Prop

/-- a loop's target -/
@[simp] def setAll : List Nat → List D → Rho → Option Rho
  | [], [], ρ => some ρ
  | i :: is, d :: ds, ρ => setAll is ds (ρ.set i (some (sh d)))
  | _, _, _ => none
@[simp] def Tg.bind : Tg → D → Rho → Option Rho
  | .name i, d, ρ => some (ρ.set i (some (sh d)))
  | .tup is, .tuple ds, ρ => setAll is ds ρ
  | _, _, _ => none
@[simp] def Tg.slots : Tg → List Nat
  | .name i => [i]
  | .tup is => is
@[simp] def clear : List Nat → Rho → Rho
  | [], ρ => ρ
  | i :: is, ρ => (clear is ρ).set i none
def onO {α : Type} (o : Option α) (f : α → Prop) : Prop := match o with
  | some a => f a
  | none => False

/-- a name with a list, its own or shared -/
def lstB (ρ : Rho) (i : Nat) : Bool := match ρ.at i with
  | some ⟨.own _, .list _⟩ => true
  | some ⟨.sh, .list _⟩ => true
  | _ => false
/-- a name with a list of its own -/
def ownB (ρ : Rho) (i : Nat) : Bool := match ρ.at i with
  | some ⟨.own _, .list _⟩ => true
  | _ => false
structure Kt where
  nx : Rho → Prop
  rt : Ety → Rho → Prop
  bk : Rho → Prop
  ct : Rho → Prop
  xe : XE

def isBool (e : Ety) (f : Bool → Prop) : Prop := match e with
  | ⟨_, .bool b⟩ => f b
  | _ => False
def isInt (e : Ety) (f : Int → Prop) : Prop := match e with
  | ⟨_, .int b⟩ => f b
  | _ => False
def isLst (e : Ety) (f : Perm → List D → Prop) : Prop := match e with
  | ⟨p, .list xs⟩ => f p xs
  | _ => False
@[simp] def one1 (es : List Ety) (f : Ety → Prop) : Prop := match es with
  | [e] => f e
  | _ => False
def seqOf : Ety → Option (List D)
  | ⟨.sh, .list xs⟩ => some xs
  | ⟨.sh, .tuple xs⟩ => some xs
  | _ => none
def tupOf : Ety → Option (List D)
  | ⟨_, .tuple xs⟩ => some xs
  | ⟨.sh, .list xs⟩ => some xs
  | ⟨.own .sh, .list xs⟩ => some xs
  | _ => none
@[simp] def tupX : Ety → Option (List D)
  | ⟨_, .tuple xs⟩ => some xs
  | _ => none
@[simp] def sameK : Ety → Ety → Bool
  | ⟨_, .list _⟩, ⟨_, .list _⟩ => true
  | ⟨_, .tuple _⟩, ⟨_, .tuple _⟩ => true
  | _, _ => false
def enumD : Nat → List D → List D
  | _, [] => []
  | n, d :: ds => .tuple [.int (n : Nat), d] :: enumD (n + 1) ds
def zipD : List D → List D → List D
  | a :: as, b :: bs => .tuple [a, b] :: zipD as bs
  | _, _ => []

/-- a dict of one's own under the name i, a key under the name j -/
def onKT (ρ : Rho) (i j : Nat) (f : List (List Int × D) → List Int → Prop) : Prop := ∃ hk l, ρ.at i = some (ownL (dT hk)) ∧ ρ.at j = some (ownL (.tuple (intsD l))) ∧ f hk l
/-- a dict with whole numbers as keys under the name i, of one's own or shared; of one's own -/
def onDI (ρ : Rho) (i : Nat) (f : List (Int × D) → Prop) : Prop := ∃ hk, (ρ.at i = some (ownL (dI hk)) ∨ ρ.at i = some (sh (dI hk))) ∧ f hk
def onDO (ρ : Rho) (i : Nat) (f : List (Int × D) → Prop) : Prop := ∃ hk, ρ.at i = some ⟨.own (.own .sh), dI hk⟩ ∧ f hk
def onDo (ρ : Rho) (i : Nat) (f : List (Int × D) → Prop) : Prop := ∃ hk, ρ.at i = some (ownL (dI hk)) ∧ f hk
@[simp] def dW : DO → Rho → (Rho → QE → Prop) → (Rho → QE → Prop) → QE → Prop
  | .newI, ρ, _, _, Q => Q (ownL (dI [])) ρ
  | .newO, ρ, _, _, Q => Q ⟨.own (.own .sh), dI []⟩ ρ
  | .new1, ρ, wk, we, Q => wk ρ (fun u ρ1 => isInt u fun n => we ρ1 (fun v ρ2 => v.p = .sh ∧ Q (ownL (dI [(n, v.d)])) ρ2) )
  | .din neg i, ρ, wk, _, Q => wk ρ (fun u ρ1 => isInt u fun n => onDI ρ1 i fun hk => Q (sh (.bool (Bool.xor neg (gI hk n).isSome))) ρ1)
  | .dgt i, ρ, wk, _, Q => onDI ρ i fun _ => wk ρ (fun u ρ1 => isInt u fun n => onDI ρ1 i fun hk => ∃ d, gI hk n = some d ∧ Q (sh d) ρ1)
  | .dgd i, ρ, wk, _, Q => onO (ρ.at i) fun e0 => e0.p.clean = true ∧ e0.p.fz = .sh ∧ ∃ hk, e0.d = dI hk ∧ wk (ρ.set i (some (sh (dI hk)))) (fun u ρ1 => isInt u fun n => Q (sh ((gI hk n).getD (.list []))) ρ1)
  | .dfrom, ρ, wk, _, Q => wk ρ (fun v ρ1 => isLst v fun q zs => q.tr = true ∧ ∃ ps : List (Int × D), zs = ps.map (fun p => .tuple [.int p.1, p.2]) ∧ Q (ownL (dI (ps.foldl (fun acc p => pI acc p.1 p.2) []))) ρ1)
  | .dcpy i, ρ, _, _, Q => onDI ρ i fun hk => Q (ownL (dI hk)) ρ
  | .dsrt i, ρ, _, _, Q => onDI ρ i fun hk => ∀ ys : List Int, ys.Perm (hk.map (·.1)) → ys.Pairwise (· ≤ ·) → Q (ownL (.list (intsD ys))) ρ
  | .dpop i, ρ, wk, _, Q => onDo ρ i fun _ => wk ρ (fun u ρ1 => isInt u fun n => onDo ρ1 i fun hk => ∃ d, gI hk n = some d ∧ Q (sh d) (ρ1.set i (some (ownL (dI (dropI hk n))))))
  | .deq neg i j, ρ, _, _, Q => onDI ρ i fun hk => (ρ.at j = some (ownL (dI hk)) ∨ ρ.at j = some (sh (dI hk))) ∧ (∀ p ∈ hk, SeqAt.shaped p.2 = true ∧ PyData.eqv p.2 p.2 = true) ∧ Q (sh (.bool (!neg))) ρ
  | .lset, ρ, wk, _, Q => wk ρ (fun v ρ1 => isLst v fun q zs => q.tr = true ∧ ∃ ns, zs = intsD ns ∧ ns.length < 64 ∧ Q (sh (.int ns.eraseDups.length)) ρ1)
  | .lsetT, ρ, wk, _, Q => wk ρ (fun v ρ1 => isLst v fun q zs => q.tr = true ∧ ∃ rs : List (List Int), zs = rs.map (fun r => .tuple (intsD r)) ∧ rs.length ≤ 305 ∧ Q (sh (.int rs.eraseDups.length)) ρ1)
  | .dlen, ρ, wk, _, Q => wk ρ (fun v ρ1 => v.p ≠ .raw ∧ ∃ hk, v.d = dI hk ∧ Q (sh (.int hk.length)) ρ1)
  | .dinO neg i, ρ, wk, _, Q => wk ρ (fun u ρ1 => isInt u fun n => onDO ρ1 i fun hk => Q (sh (.bool (Bool.xor neg (gI hk n).isSome))) ρ1)
/-- the items of a comprehension, one after the other -/
def wpComp (bodyT : D → Rho → (Option Ety → Rho → Prop) → Prop) : List D → List D → Rho → (List D → Rho → Prop) → Prop
  | [], acc, ρ, Q => Q acc.reverse ρ
  | d :: ds, acc, ρ, Q => bodyT d ρ fun o ρ' => match o with
    | none => wpComp bodyT ds acc ρ' Q
    | some e => wpComp bodyT ds (e.d :: acc) ρ' Q
def wpFor (b : D → Rho → Kt → Prop) : List D → Rho → Kt → Prop
  | [], ρ, k => k.nx ρ
  | d :: ds, ρ, k => b d ρ { nx := fun ρ' => wpFor b ds ρ' k, rt := k.rt, bk := k.nx, ct := fun ρ' => wpFor b ds ρ' k, xe := k.xe }
def wpWhile (c : Rho → (Bool → Rho → Prop) → Prop) (b : Rho → Kt → Prop) : Nat → Rho → Kt → Prop
  | 0, _, _ => False
  | n + 1, ρ, k => c ρ fun v ρ1 => if v = true then b ρ1 { nx := fun ρ' => wpWhile c b n ρ' k, rt := k.rt, bk := k.nx, ct := fun ρ' => wpWhile c b n ρ' k, xe := k.xe } else k.nx ρ1

section
variable (Φ : String → Spec)
mutual
@[simp] def wpE : E → Rho → QE → XE → Prop
  | .var i, ρ, Q, _ => onO (ρ.at i) fun e => e.p.clean = true ∧ Q ⟨e.p.fz, e.d⟩ (ρ.set i (some ⟨e.p.fz, e.d⟩))
  | .mv i, ρ, Q, _ => onO (ρ.at i) fun e => Q e (ρ.set i none)
  | .pk _, _, _, _ => False
  | .int n, ρ, Q, _ => Q (sh (.int n)) ρ
  | .bl b, ρ, Q, _ => Q (sh (.bool b)) ρ
  | .non, ρ, Q, _ => Q (sh .none) ρ
  | .str s, ρ, Q, _ => Q (sh (.str (Str.ofString s))) ρ
  | .frz e, ρ, Q, X => wpE e ρ (fun v ρ' => Q ⟨v.p.fz, v.d⟩ ρ') X
  | .prim p as, ρ, Q, X => wpEs as ρ (fun vs ρ' => onO (looks ρ' vs) fun es => wpP p es fun v => Q v ρ') X
  | .tup as, ρ, Q, X => wpEs as ρ (fun vs ρ' => onO (shV vs) fun ds => ds.length ≤ sizeLine ∧ Q (sh (.tuple ds)) ρ') X
  | .lst as, ρ, Q, X => wpEs as ρ (fun vs ρ' => onO (shV vs) fun ds => ds.length ≤ sizeLine ∧ Q (ownL (.list ds)) ρ') X
  | .lstO as, ρ, Q, X => wpEs as ρ (fun vs ρ' => onO (looks [] vs) fun es => (es.all fun e => decide (e.p = .own .sh) || (decide (e.p = .sh) && isScal e.d)) = true ∧ es.length ≤ sizeLine ∧ Q ⟨.own (.own .sh), .list (es.map (·.d))⟩ ρ') X
  | .lstR as, ρ, Q, X => wpEs as ρ (fun vs ρ' => onO (looks [] vs) fun es => (es.all fun e => decide (e.p = .raw) || (decide (e.p = .sh) && isScal e.d)) = true ∧ es.length ≤ sizeLine ∧ Q ⟨.own .raw, .list (es.map (·.d))⟩ ρ') X
  | .call f as, ρ, Q, X => wpEs as ρ (fun vs ρ' => onO (looks ρ' vs) fun es => (pkI vs).Nodup ∧ Φ f (vs.map AV.isPk) es (fun v os => onO (puts ρ' vs os) fun ρ2 => Q v ρ2) (fun x => X x (kills ρ' vs))) X
  | .and a b, ρ, Q, X => wpE a ρ (fun v ρ1 => isBool v fun t => if t = true then wpE b ρ1 Q X else Q (sh (.bool false)) ρ1) X
  | .or a b, ρ, Q, X => wpE a ρ (fun v ρ1 => isBool v fun t => if t = true then Q (sh (.bool true)) ρ1 else wpE b ρ1 Q X) X
  | .not a, ρ, Q, X => wpE a ρ (fun v ρ1 => isBool v fun t => Q (sh (.bool (!t))) ρ1) X
  | .ite c a b, ρ, Q, X => wpE c ρ (fun v ρ1 => isBool v fun t => if t = true then wpE a ρ1 Q X else wpE b ρ1 Q X) X
  | .chain o1 o2 a b c, ρ, Q, X => wpE a ρ (fun va ρ1 => wpE b ρ1 (fun vb ρ2 => wpP o1 [va, vb] fun v => isBool v fun t =>
      if t = true then wpE c ρ2 (fun vc ρ3 => wpP o2 [vb, vc] fun v => Q v ρ3) X else Q (sh (.bool false)) ρ2) X) X
  | .comp t it c e, ρ, Q, X => wpI it ρ (fun ds ρ1 => ds.length ≤ sizeLine ∧
      wpComp (fun d r K => onO (t.bind d (clear t.slots r)) fun r1 => wpE c r1 (fun v r2 => isBool v fun g => if g = true then wpE e r2 (fun y r3 => y.p = .sh ∧ K (some y) r3) (fun _ _ => False) else K none r2) (fun _ _ => False)) ds [] ρ1
        (fun acc ρ2 => Q (ownL (.list acc)) (clear t.slots ρ2))) X
  | .pop i, ρ, Q, _ => onO (ρ.at i) fun e => match e with
    | ⟨.own .sh, .list xs⟩ => ∃ y, xs[xs.length - 1]? = some y ∧ Q (sh y) (ρ.set i (some (ownL (.list xs.dropLast))))
    | _ => False
  | .popAt i k, ρ, Q, X => ownB ρ i = true ∧ wpE k ρ (fun v ρ1 => onO (ρ1.at i) fun e => match v, e with
    | ⟨_, .int j⟩, ⟨.own .sh, .list xs⟩ => 0 ≤ j ∧ ∃ y, xs[j.toNat]? = some y ∧ j < 2 ^ 62 ∧ Q (sh y) (ρ1.set i (some (ownL (.list (xs.eraseIdx j.toNat)))))
    | _, _ => False) X
  | .cut a b c, ρ, Q, X => wpEs a ρ (fun vs ρ1 => wpE b ρ1 (fun v ρ2 => isInt v fun i => wpE c ρ2 (fun w ρ3 => isInt w fun j => onO (looks ρ3 vs) fun es => one1 es fun x => pSlv x (some i) (some j) fun y => Q y ρ3) X) X) X
  | .ix2 i a b, ρ, Q, _ => onNst ρ i a fun _ _ ys => ∃ k d, evA ρ b = some k ∧ L2.atI ys k = some d ∧ Q (sh d) ρ
  | .len1 i a, ρ, Q, _ => onNst ρ i a fun _ _ ys => Q (sh (.int ys.length)) ρ
  | .isx e cs, ρ, Q, X => wpE e ρ (fun v ρ' => v.p = .sh ∧ onO (exCls v.d) fun c => Q (sh (.bool (cs.any (subX c)))) ρ') X
  | .fld e _, ρ, Q, X => wpE e ρ (fun v ρ' => v.p = .sh ∧ onO (exPl v.d) fun i => Q (sh (.int i)) ρ') X
  | .zipL a b, ρ, Q, X => wpE a ρ (fun v ρ1 => wpE b ρ1 (fun w ρ2 => onO (seqOf v) fun xs => onO (seqOf w) fun ys => xs.length ≤ sizeLine ∧ Q (ownL (.list (zipD xs ys))) ρ2) X) X
  | .dop o k e, ρ, Q, X => dW o ρ (fun r q => wpE k r q X) (fun r q => wpE e r q X) Q
  | .zcat i a b, ρ, Q, _ => onNst ρ i a fun _ _ ys => ∃ k, evB ρ b = some k ∧ -(2 ^ 62) ≤ k ∧ k < 2 ^ 62 ∧ ys.length + k.toNat ≤ sizeLine ∧ Q (ownL (.list (ys ++ (List.replicate k.toNat [.int 0]).flatten))) ρ
  | .hcat i a e, ρ, Q, _ => onNst ρ i a fun xs _ ys => wpE e (ρ.set i none) (fun v ρ1 => isLst v fun q zs => q.tr = true ∧ ys.length + zs.length ≤ sizeLine ∧ Q (ownL (.list (ys ++ zs))) (ρ1.set i (some ⟨.own (.own .sh), .list xs⟩))) (fun _ _ => False)
  | .idx i k, ρ, Q, X => lstB ρ i = true ∧ wpE k ρ (fun v ρ1 => onO (ρ1.at i) fun e => match e with
    | ⟨_, .list xs⟩ => SeqAt.shaped (.list xs) = true ∧ SeqAt.shaped v.d = true ∧ ∃ n : Nat, xs.findIdx? (fun z => PyData.eqv z v.d) = some n ∧ Q (sh (.int n)) ρ1
    | _ => False) X
  | .fnv f, ρ, Q, _ => Q (sh (fnD f)) ρ
  | .callv i gs as, ρ, Q, X => onO (ρ.at i) fun e0 => e0.p = .sh ∧ ∃ g ∈ gs, e0.d = fnD g ∧ wpEs as ρ (fun vs ρ' => onO (looks ρ' vs) fun es => (pkI vs).Nodup ∧ Φ g (vs.map AV.isPk) es (fun v os => onO (puts ρ' vs os) fun ρ2 => Q v ρ2) (fun x => X x (kills ρ' vs))) X
  | .exc c, ρ, Q, _ => Q (sh (excD ⟨c, []⟩)) ρ
  | .callL f i, ρ, Q, X => onO (ρ.at i) fun e0 => e0.p = .own .sh ∧ Φ f [false] [sh e0.d] (fun v _ => isScal v.d = true ∧ Q (sh v.d) ρ) (fun x => X x ρ)
  | .sset e, ρ, Q, X => wpE e ρ (fun v ρ' => match v with
    | ⟨_, .tuple xs⟩ => ∃ ns, xs = intsD ns ∧ ns.length ≤ 60 ∧ ∀ out : List Int, out.Pairwise (· < ·) → (∀ k, k ∈ out ↔ k ∈ ns) → Q (ownL (.list (intsD out))) ρ'
    | ⟨q, .list xs⟩ => q.tr = true ∧ ∃ ns, xs = intsD ns ∧ ns.length ≤ 60 ∧ ∀ out : List Int, out.Pairwise (· < ·) → (∀ k, k ∈ out ↔ k ∈ ns) → Q (ownL (.list (intsD out))) ρ'
    | _ => False) X
  | .dnewT, ρ, Q, _ => Q (ownL (dT [])) ρ
  | .tupT as, ρ, Q, X => wpEs as ρ (fun vs ρ' => onO (shV vs) fun ds => ds.length ≤ sizeLine ∧ Q (ownL (.tuple ds)) ρ') X
  | .kin neg i j, ρ, Q, _ => onKT ρ i j fun hk l => Q (sh (.bool (Bool.xor neg (gK hk l).isSome))) ρ
  | .dix i j, ρ, Q, _ => onKT ρ i j fun hk l => ∃ d, gK hk l = some d ∧ Q (sh d) ρ
  | .excF c n e, ρ, Q, X => wpE e ρ (fun v ρ' => isInt v fun i => 0 ≤ i ∧ i < 400 ∧ Q (sh (excD ⟨c, [(n, .int i)]⟩)) ρ') X
@[simp] def wpEs : Es → Rho → (List AV → Rho → Prop) → XE → Prop
  | .nil, ρ, Q, _ => Q [] ρ
  | .cons (.pk i) es, ρ, Q, X => (ρ.at i).isSome = true ∧ wpEs es ρ (fun vs ρ' => Q (.pk i :: vs) ρ') X
  | .cons e es, ρ, Q, X => wpE e ρ (fun v ρ1 => wpEs es ρ1 (fun vs ρ' => Q (.val v :: vs) ρ') X) X
@[simp] def wpI : I → Rho → (List D → Rho → Prop) → XE → Prop
  | .seq e, ρ, Q, X => wpE e ρ (fun v ρ1 => onO (seqOf v) fun ds => Q ds ρ1) X
  | .rng1 a, ρ, Q, X => wpE a ρ (fun v ρ1 => match v with
    | ⟨_, .int j⟩ => -(2 ^ 62) ≤ j ∧ j < 2 ^ 62 ∧ Q (rgD 0 j) ρ1
    | _ => False) X
  | .rng2 a b, ρ, Q, X => wpE a ρ (fun v ρ1 => wpE b ρ1 (fun w ρ2 => match v, w with
    | ⟨_, .int i⟩, ⟨_, .int j⟩ => (-(2 ^ 62) ≤ i ∧ i < 2 ^ 62 ∧ -(2 ^ 62) ≤ j ∧ j < 2 ^ 62) ∧ Q (rgD i j) ρ2
    | _, _ => False) X) X
  | .rngW a b, ρ, Q, X => wpE a ρ (fun v ρ1 => wpE b ρ1 (fun w ρ2 => match v, w with
    | ⟨_, .int i⟩, ⟨_, .int j⟩ => Q (rgD i j) ρ2
    | _, _ => False) X) X
  | .rng3 a b c, ρ, Q, X => wpE a ρ (fun v ρ1 => wpE b ρ1 (fun w ρ2 => wpE c ρ2 (fun z ρ3 => match v, w, z with
    | ⟨_, .int i⟩, ⟨_, .int j⟩, ⟨_, .int k⟩ => k = -1 ∧ (-(2 ^ 62) ≤ i ∧ i < 2 ^ 62 ∧ -(2 ^ 62) ≤ j ∧ j < 2 ^ 62) ∧ Q (dnD i j) ρ3
    | _, _, _ => False) X) X) X
  | .rngS a b c, ρ, Q, X => wpE a ρ (fun v ρ1 => wpE b ρ1 (fun w ρ2 => wpE c ρ2 (fun z ρ3 => match v, w, z with
    | ⟨_, .int i⟩, ⟨_, .int j⟩, ⟨_, .int k⟩ => (0 < k ∧ k < 1000000 ∧ 0 ≤ i ∧ i < 1000000000 ∧ 0 ≤ j ∧ j < 1000000000) ∧ Q (stD i j k) ρ3
    | _, _, _ => False) X) X) X
  | .revR a, ρ, Q, X => wpE a ρ (fun v ρ1 => match v with
    | ⟨_, .int j⟩ => -(2 ^ 62) ≤ j ∧ j < 2 ^ 62 ∧ Q (rgD 0 j).reverse ρ1
    | _ => False) X
  | .revR2 a b, ρ, Q, X => wpE a ρ (fun v ρ1 => wpE b ρ1 (fun w ρ2 => match v, w with
    | ⟨_, .int i⟩, ⟨_, .int j⟩ => (-(2 ^ 62) ≤ i ∧ i < 2 ^ 62 ∧ -(2 ^ 62) ≤ j ∧ j < 2 ^ 62) ∧ Q (rgD i j).reverse ρ2
    | _, _ => False) X) X
  | .rev e, ρ, Q, X => wpE e ρ (fun v ρ1 => onO (seqOf v) fun ds => Q ds.reverse ρ1) X
  | .enum e, ρ, Q, X => wpE e ρ (fun v ρ1 => onO (seqOf v) fun ds => Q (enumD 0 ds) ρ1) X
  | .zip a b, ρ, Q, X => wpE a ρ (fun v ρ1 => wpE b ρ1 (fun w ρ2 => onO (seqOf v) fun xs => onO (seqOf w) fun ys => Q (zipD xs ys) ρ2) X) X
end

/-- x.append, x[k].append .. of an owned list -/
def onOwn (ρ : Rho) (i : Nat) (f : Perm → List D → Prop) : Prop := match ρ.at i with
  | some ⟨.own p, .list xs⟩ => f p xs
  | _ => False
/-- a loop over lists of the def's own, told by their names: each is lent to the name s for one turn -/
def wpLend (s : Nat) (b : Rho → Kt → Prop) : List Nat → Rho → Kt → Prop
  | [], ρ, k => k.nx ρ
  | x :: xs, ρ, k => onOwn ρ x fun p ds => b ((ρ.set x none).set s (some ⟨.own p, .list ds⟩))
      { nx := fun ρ' => onOwn ρ' s fun p' ds' => wpLend s b xs ((ρ'.set s none).set x (some ⟨.own p', .list ds'⟩)) k, rt := fun _ _ => False, bk := fun _ => False, ct := fun _ => False, xe := k.xe }
/-- what may be put into a list whose items bear p -/
def fits (p : Perm) (e : Ety) : Prop := e.p = p ∨ (e.p = .sh ∧ isScal e.d = true)

@[simp] def dsW : DS → Rho → (Rho → QE → Prop) → (Rho → QE → Prop) → (Rho → Kt → Prop) → Kt → Prop
  | .forI n r, ρ, wk, _, wb, k => wk ρ (fun v ρ1 => v.p = .own .sh ∧ ∃ hk, v.d = dI hk ∧ wpFor (fun d r0 k' => onO ((Tg.tup [n, r]).bind d r0) fun r1 => wb r1 k') (hk.map fun p => .tuple [.int p.1, p.2]) ρ1
      { nx := k.nx, rt := fun _ _ => False, bk := fun _ => False, ct := fun _ => False, xe := fun _ _ => False })
  | .setd i, ρ, wk, we, _, k => we ρ (fun v ρ1 => v.p = .sh ∧ onDo ρ1 i fun _ => wk ρ1 (fun w ρ2 => isInt w fun n => onDo ρ2 i fun hk => hk.length < sizeLine ∧ k.nx (ρ2.set i (some (ownL (dI (pI hk n v.d)))))))
  | .swpl i a b, ρ, _, _, _, k => onOwn ρ i fun p xs => p = .sh ∧ ∃ l m l2 m2 d d2, evA ρ a = some l ∧ L2.ixN xs.length l = some m ∧ evA ρ b = some l2 ∧ L2.ixN xs.length l2 = some m2 ∧ xs[m]? = some d ∧ xs[m2]? = some d2 ∧ k.nx (ρ.set i (some (ownL (.list ((xs.set m d2).set m2 d)))))
  | .ins i a, ρ, _, we, _, k => ownB ρ i = true ∧ ∃ n, evA ρ a = some n ∧ we ρ (fun v ρ1 => v.p = .sh ∧ onOwn ρ1 i fun p xs => p = .sh ∧ 0 ≤ n ∧ n < 2 ^ 62 ∧ xs.length < sizeLine ∧ k.nx (ρ1.set i (some (ownL (.list (xs.take n.toNat ++ [v.d] ++ xs.drop n.toNat))))))
  | .setsl i lo hi, ρ, _, we, _, k => we ρ (fun v ρ1 => v.p = .own .sh ∧ isLst v fun _ ys => onOwn ρ1 i fun p xs => p = .sh ∧ ∃ a b : Int, evA ρ1 lo = some a ∧ evA ρ1 hi = some b ∧ 0 ≤ a ∧ a ≤ b ∧ b ≤ xs.length ∧ xs.length + ys.length ≤ sizeLine ∧ k.nx (ρ1.set i (some (ownL (.list (xs.take a.toNat ++ ys ++ xs.drop b.toNat))))))
  | .swpd i a b, ρ, _, _, _, k => onDo ρ i fun hk => ∃ m n d e, evA ρ a = some m ∧ evA ρ b = some n ∧ gI hk m = some d ∧ gI hk n = some e ∧ hk.length < sizeLine ∧ k.nx (ρ.set i (some (ownL (dI (pI (pI hk m e) n d)))))
  | .setdO i a, ρ, _, _, _, k => onDO ρ i fun hk => ∃ n, evA ρ a = some n ∧ gI hk n = none ∧ hk.length < sizeLine ∧ k.nx (ρ.set i (some ⟨.own (.own .sh), dI (hk ++ [(n, .list [])])⟩))
  | .appd i a e, ρ, _, _, _, k => onDO ρ i fun hk => ∃ n v ys, evA ρ a = some n ∧ evA ρ e = some v ∧ gI hk n = some (.list ys) ∧ ys.length < sizeLine ∧ k.nx (ρ.set i (some ⟨.own (.own .sh), dI (seI hk n (.list (ys ++ [.int v])))⟩))
  | .forD i n r, ρ, _, _, wb, k => ∃ hk, ρ.at i = some (sh (dI hk)) ∧ flatR (ρ.set i none) = true ∧ (hk.all fun p => flatD p.2) = true ∧ wpFor (fun d r0 k' => onO ((Tg.tup [n, r]).bind d r0) fun r1 => wb r1 k') (hk.map (pairD hk)) (ρ.set i none)
      { nx := fun ρ' => flatR ρ' = true ∧ k.nx (ρ'.set i (some (sh (dI hk)))), rt := fun e ρ' => e.p = .sh ∧ flatD e.d = true ∧ flatR ρ' = true ∧ k.rt e (ρ'.set i (some (sh (dI hk)))), bk := fun _ => False, ct := fun _ => False, xe := fun _ _ => False }
mutual
@[simp] def wpS : S → Rho → Kt → Prop
  | .expr e, ρ, k => wpE Φ e ρ (fun _ ρ' => k.nx ρ') k.xe
  | .set i e, ρ, k => wpE Φ e ρ (fun v ρ' => k.nx (ρ'.set i (some v))) k.xe
  | .unp is e, ρ, k => wpE Φ e ρ (fun v ρ' => onO (tupOf v) fun ds => onO (setAll is ds ρ') k.nx) k.xe
  | .par i j a b, ρ, k => wpE Φ a ρ (fun v ρ1 => wpE Φ b ρ1 (fun w ρ2 => k.nx ((ρ2.set i (some v)).set j (some w))) k.xe) k.xe
  | .aug i o e, ρ, k => onO (ρ.at i) fun x => isScal x.d = true ∧ wpE Φ e ρ (fun v ρ1 => wpP o [sh x.d, v] fun z => k.nx (ρ1.set i (some z))) k.xe
  | .app i e, ρ, k => ownB ρ i = true ∧ wpE Φ e ρ (fun v ρ1 => onOwn ρ1 i fun p xs => fits p v ∧ xs.length < sizeLine ∧ k.nx (ρ1.set i (some ⟨.own p, .list (xs ++ [v.d])⟩))) k.xe
  | .app1 i a e, ρ, k => onNst ρ i a fun xs n ys => ∃ v, evA ρ e = some v ∧ ys.length < sizeLine ∧ k.nx (ρ.set i (some ⟨.own (.own .sh), .list (xs.set n (.list (ys ++ [.int v])))⟩))
  | .ext i e, ρ, k => ownB ρ i = true ∧ wpE Φ e ρ (fun v ρ1 => onOwn ρ1 i fun p xs => p = .sh ∧ isLst v fun q ys =>
      q.tr = true ∧ xs.length + ys.length ≤ sizeLine ∧ k.nx (ρ1.set i (some (ownL (.list (xs ++ ys)))))) k.xe
  | .extT i e, ρ, k => ownB ρ i = true ∧ wpE Φ e ρ (fun v ρ1 => onOwn ρ1 i fun p xs => p = .sh ∧ onO (tupX v) fun ys =>
      xs.length + ys.length ≤ sizeLine ∧ k.nx (ρ1.set i (some (ownL (.list (xs ++ ys)))))) k.xe
  | .setix i a e, ρ, k => wpE Φ e ρ (fun v ρ1 => ownB ρ1 i = true ∧ wpE Φ a ρ1 (fun u ρ2 => onOwn ρ2 i fun p xs => isInt u fun j =>
      ∃ n, L2.ixN xs.length j = some n ∧ fits p v ∧ k.nx (ρ2.set i (some ⟨.own p, .list (xs.set n v.d)⟩))) k.xe) k.xe
  | .setix1 i a b e, ρ, k => wpE Φ e ρ (fun v ρ1 => v.p = .sh ∧ onNst ρ1 i a fun xs n ys => ∃ l m, evA ρ1 b = some l ∧ L2.ixN ys.length l = some m ∧ k.nx (ρ1.set i (some ⟨.own (.own .sh), .list (xs.set n (.list (ys.set m v.d)))⟩))) k.xe
  | .setk i j e, ρ, k => wpE Φ e ρ (fun v ρ1 => v.p = .sh ∧ onKT ρ1 i j fun hk l => hk.length < sizeLine ∧ k.nx (ρ1.set i (some (ownL (dT (pK hk l v.d)))))) k.xe
  | .setO i t it c e, ρ, k => wpI Φ it ρ (fun ds ρ1 => ds.length ≤ sizeLine ∧
      wpComp (fun d r K => onO (t.bind d (clear t.slots r)) fun r1 => wpE Φ c r1 (fun v r2 => isBool v fun g => if g = true then wpE Φ e r2 (fun y r3 => y.p = .own .sh ∧ K (some y) r3) (fun _ _ => False) else K none r2) (fun _ _ => False)) ds [] ρ1
        (fun acc ρ2 => k.nx ((clear t.slots ρ2).set i (some ⟨.own (.own .sh), .list acc⟩)))) k.xe
  | .dst o u e b, ρ, k => dsW o ρ (fun r q => wpE Φ u r q k.xe) (fun r q => wpE Φ e r q k.xe) (fun r k' => wpSs b r k') k
  | .swp1 i a b c, ρ, k => onNst ρ i a fun xs n ys => ∃ l m l2 m2 d d2, evA ρ b = some l ∧ L2.ixN ys.length l = some m ∧ evA ρ c = some l2 ∧ L2.ixN ys.length l2 = some m2 ∧ ys[m]? = some d ∧ ys[m2]? = some d2 ∧
      k.nx (ρ.set i (some ⟨.own (.own .sh), .list (xs.set n (.list ((ys.set m d2).set m2 d)))⟩))
  | .rvs i, ρ, k => onOwn ρ i fun p xs => k.nx (ρ.set i (some ⟨.own p, .list xs.reverse⟩))
  | .clr i, ρ, k => onOwn ρ i fun p xs => k.nx (ρ.set i (some ⟨.own p, .list []⟩))
  | .ife c a b, ρ, k => wpE Φ c ρ (fun v ρ1 => isBool v fun t => if t = true then wpSs a ρ1 k else wpSs b ρ1 k) k.xe
  | .for_ t it b, ρ, k => wpI Φ it ρ (fun ds ρ1 => wpFor (fun d r k' => onO (t.bind d r) fun r1 => wpSs b r1 k') ds ρ1 k) k.xe
  | .forA s i j e b, ρ, k => ownB ρ i = true ∧ ownB ρ j = true ∧ wpE Φ e ρ (fun v ρ1 => isInt v fun n => 0 ≤ n ∧ wpLend s (fun r k' => wpSs b r k') ([i, j].take n.toNat) ρ1 k) k.xe
  | .whl c b, ρ, k => ∃ n, wpWhile (fun r Q => wpE Φ c r (fun v r1 => isBool v fun t => Q t r1) k.xe) (fun r k' => wpSs b r k') n ρ k
  | .ret e, ρ, k => wpE Φ e ρ (fun v ρ' => k.rt v ρ') k.xe
  | .retN, ρ, k => k.rt (sh .none) ρ
  | .brk, ρ, k => k.bk ρ
  | .cont, ρ, k => k.ct ρ
  | .pass, ρ, k => k.nx ρ
  | .never, _, _ => False
  | .raise c, ρ, k => k.xe ⟨c, []⟩ ρ
  | .raiseF c n e, ρ, k => wpE Φ e ρ (fun v ρ' => isInt v fun i => 0 ≤ i ∧ i < 400 ∧ k.xe ⟨c, [(n, .int i)]⟩ ρ') k.xe
  | .try_ b c none h, ρ, k => wpSs b ρ { k with xe := fun x ρ1 => if subX x.cls c = true then wpSs h ρ1 { k with xe := fun _ _ => False } else k.xe x ρ1 }
  | .try_ b c (some i) h, ρ, k => wpSs b ρ { k with xe := fun x ρ1 => if subX x.cls c = true then wpSs h (ρ1.set i (some (sh (excD x)))) { k with nx := fun r => k.nx (r.set i none), bk := fun r => k.bk (r.set i none), ct := fun r => k.ct (r.set i none), xe := fun _ _ => False } else k.xe x ρ1 }
def wpSs : Ss → Rho → Kt → Prop
  | .nil, ρ, k => k.nx ρ
  | .cons s ss, ρ, k => wpS s ρ { k with nx := fun ρ' => wpSs ss ρ' k }
end
end

/-- a def: how many parameters, names in all, which parameters are changed for the caller -/
structure Def where
  np : Nat
  n : Nat
  ios : List Bool
  body : Ss

/-- the data of the changed parameters at the end -/
@[simp] def outsOf : List Bool → List Ety → Rho → Option (List D)
  | [], [], _ => some []
  | true :: bs, e :: es, some e' :: ρ => if e.p = e'.p then (outsOf bs es ρ).map (e'.d :: ·) else none
  | false :: bs, _ :: es, _ :: ρ => outsOf bs es ρ
  | _, _, _ => none
/-- which parameters the caller takes back: some of those that the def keeps -/
def okIo : List Bool → List Bool → Bool
  | [], [] => true
  | a :: as, b :: bs => (!a || b) && okIo as bs
  | _, _ => false
theorem okIo_refl : ∀ (l : List Bool), okIo l l = true
  | [] => rfl
  | a :: l => by simp [okIo, okIo_refl l]
theorem okIo_len : ∀ {a b : List Bool}, okIo a b = true → a.length = b.length
  | [], [], _ => rfl
  | a :: as, b :: bs, h => by
    simp only [okIo, Bool.and_eq_true] at h
    simp [okIo_len h.2]
  | [], _ :: _, h => by simp [okIo] at h
  | _ :: _, [], h => by simp [okIo] at h
theorem okIo_get : ∀ {a b : List Bool}, okIo a b = true → ∀ {i : Nat}, a[i]? = some true → b[i]? = some true
  | [], [], _, i, e => by simp at e
  | a :: as, b :: bs, h, 0, e => by
    simp only [okIo, Bool.and_eq_true] at h
    simp at e
    subst e
    simpa using h.1
  | a :: as, b :: bs, h, i + 1, e => by
    simp only [okIo, Bool.and_eq_true] at h
    simpa using okIo_get h.2 (i := i) (by simpa using e)
  | [], _ :: _, h, _, _ => by simp [okIo] at h
  | _ :: _, [], h, _, _ => by simp [okIo] at h
def Def.wp (Φ : String → Spec) (d : Def) : Spec := fun ios es Q X =>
  okIo ios d.ios = true ∧ es.length = d.np ∧ wpSs Φ d.body (es.map some ++ List.replicate (d.n - d.np) none)
    { nx := fun ρ => onO (outsOf ios es ρ) fun os => Q (sh .none) os, rt := fun v ρ => onO (outsOf ios es ρ) fun os => Q v os, bk := fun _ => False, ct := fun _ => False, xe := fun x _ => X x }
end MS
/-! try .. except X as n, where what was caught is kept as a thing of the heap. -/
namespace MS
open PySem PySem.Spec PyProof.Rows L2
/-- at a lies an exception of the class at C, its fields at d -/
def exv (a C : Addr) (d : Option Addr) : HO := .ext fun h => ∃ ob vs, h.get? a = some ob ∧ Zc (.ref C) d ob ∧ ob.data = .fields vs
theorem exv_ok {P : Program} {w : World} {H : Hp} {h : Heap} {a C : Addr} {d : Option Addr} {ob : Obj} {vs : Array Value} (e : h.get? a = some ob) (z : Zc (.ref C) d ob) (f : ob.data = .fields vs) : ObjOk P w H h a (exv a C d) :=
  ⟨⟨ob, vs, e, z, f⟩, ⟨ob, e⟩, fun _ _ q k => by
    obtain ⟨o2, v2, q1, q2, q3⟩ := q
    exact ⟨o2, v2, k _ q1, q2, q3⟩⟩
theorem exv_at {P : Program} {w : World} {H : Hp} {h : Heap} {a C : Addr} {d : Option Addr} (hok : HOk P w H h) (e : H a = some (exv a C d)) : ∃ ob vs, h.get? a = some ob ∧ Zc (.ref C) d ob ∧ ob.data = .fields vs := by
  have q : ObjOk P w H h a (exv a C d) := hok a _ e
  exact q.1
section
variable {X : Cx} {pins : List (Addr × Obj)} {σ : L2.St} {H : Hp} {s : Shared}
/-- it is put to the things of the heap -/
theorem inv_pub {a C : Addr} {d : Option Addr} {ob : Obj} {vs : Array Value} (I : Inv X pins σ H s) (e : s.heap.get? a = some ob) (z : Zc (.ref C) d ob) (f : ob.data = .fields vs) (ha : H a = none) (hL : a ≠ X.env.locals)
    (h0 : X.s_0.heap.get? a = none) (hp : ∀ p ∈ X.pn ++ pins, p.1 ≠ a) : Inv X pins σ (upd H a (exv a C d)) s := by
  have keep : ∀ {b : Addr} {o : HO}, H b = some o → upd H a (exv a C d) b = some o := fun {b o} q => by
    rw [upd_ne (fun y => by rw [y, ha] at q; cases q)]; exact q
  refine ⟨I.ok, I.os, I.bare, ⟨I.base.keep, I.base.slot, fun b o q n hx => ?_, I.base.there, fun b xs q => keep (I.base.tups b xs q), fun b o u q => keep (I.base.frzs b o u q), fun b ps q => ?_⟩, I.loc, I.cell, ?_, fun x c q => ?_, fun p hq => ?_, fun b o q => ?_, I.len⟩
  · rw [upd_ne (fun y => by rw [y, h0] at q; cases q)]
    exact I.base.free b o q n hx
  · obtain ⟨more, q⟩ := I.base.tbls b ps q
    exact ⟨more, keep q⟩
  · rw [upd_ne (Ne.symm hL)]; exact I.free
  · rw [upd_ne (fun y => by
      obtain ⟨v, o, q1, q2⟩ := I.cell x c q
      rw [y, e] at q1
      cases q1
      rw [f] at q2; cases q2)]
    exact I.freeC x c q
  · obtain ⟨q1, q2, q3⟩ := I.pin p hq
    exact ⟨q1, by rw [upd_ne (hp p hq)]; exact q2, q3⟩
  · by_cases y : b = a
    · subst y
      rw [upd_same] at q
      cases q
      exact exv_ok e z f
    · rw [upd_ne y] at q
      exact (I.hok b o q).stay (fun _ _ _ k => k) (fun _ k => keep k) fun _ _ k => keep k
theorem inv_out {a : Addr} {pins' : List (Addr × Obj)} (I : Inv (X.suite a (X.pn ++ pins)) pins' σ H s) (ok : X.Ok) : Inv X pins σ H s :=
  { ok := ok, os := I.os, bare := I.bare, base := I.base, loc := I.loc, cell := I.cell, free := I.free, freeC := I.freeC, pin := fun p hp => I.pin p (List.mem_append_left _ hp), hok := I.hok, len := I.len }
theorem inv_in {a : Addr} (I : Inv X pins σ H s) : Inv (X.suite a (X.pn ++ pins)) [] σ H s :=
  { ok := I.ok.suite _ _, os := I.os, bare := I.bare, base := I.base, loc := I.loc, cell := I.cell, free := I.free, freeC := I.freeC, pin := fun p hp => I.pin p (by simpa using hp), hok := I.hok, len := I.len }
end
/-- what the clause wishes of what the body lets out -/
def wPub (K : PySem.W.Frag) (c : Value) (i : Nat) (ts : Addr → TS) (Wout : WX) (D : Ends) : WX := fun cls d σ H =>
  ∃ C g, cls = .ref C ∧ PySem.W.exmOne K cls c = some g ∧ (g = true → ∀ a, H a = none → ts a { nx := fun σ' => D.nx (σ'.set i none), rt := D.rt, bk := fun σ' => D.bk (σ'.set i none), ct := fun σ' => D.ct (σ'.set i none) } (σ.set i (some (.ref a))) (upd H a (exv a C d))) ∧
    (g = false → Wout cls d σ H)
section
variable {X : Cx} {x n : Str} {c : Value} {i : Nat} {body rest : List Stmt} {first : Stmt} {np hp pos : Pos} {tb : WX → TS} {ts : Addr → TS} {Wout : WX}
theorem ps_try_pub (stk : X.stack = X.env :: X.outer) (fr : X.env.frame = some X.env.locals) (hex : X.ex = []) (nd : X.N.Nodup) (ni : X.N[i]? = some n) (nl : X.env.kindOf n = some .local) (nm : Names X x c) (tk : Takes X Wout)
    (B : ∀ (W : WX) (pn : List (Addr × Obj)) (xe : Value → Shared → Prop), Takes (X.tr pn xe) W → PassesOwn (model X.prog X.w) X.A X.env xe → PSs (X.tr pn xe) body (tb W))
    (S : ∀ (a : Addr) (pn : List (Addr × Obj)), PSs (X.suite a pn) (first :: rest) (ts a)) :
    PS X (.Try body [.ExceptHandler (some (.Name x np)) (some n) (first :: rest) hp] [] [] pos) fun D σ H => tb (wPub X.K c i ts Wout D) D σ H := by
  refine ⟨fun pins s σ H D I wish => wpAny_Try_except ?_⟩
  have OK := I.ok
  have frm : X.A.frames = some (X.env :: X.outer) := OK.frames.trans (congrArg some stk)
  let after : Value → Shared → Prop := fun u t => wpAny (model X.prog X.w) X.A (noteFrame u X.env) (fun _ t2 => wpAny (model X.prog X.w) X.A (setFlight u none)
    (fun _ t3 => wpAny (model X.prog X.w) X.A (handleBy u X.env [.ExceptHandler (some (.Name x np)) (some n) (first :: rest) hp]) (SP X pins D) X.xe t3) X.xe t2) X.xe t
  have catches : Takes (X.tr (X.pn ++ pins) after) (wPub X.K c i ts Wout D) := by
    rintro u t ⟨a, G, tI, pins1, σ1, H1, cls, d, rfl, J0, ground, up, sky, free, os, bare, C, g, rfl, mt, yes, no⟩
    have J : Inv X pins σ1 H1 tI := J0.ofTry OK
    have sky : Sky G (X.env :: X.outer) a (Zc (.ref C) d) X.env.locals t.heap := stk ▸ sky
    show wpAny (model X.prog X.w) X.A (noteFrame (.ref a) X.env) _ _ _
    refine Sky.land Zc.steady frm fr sky fun h2 fl2 up2 => ?_
    have J2 : Inv X pins σ1 H1 { t with heap := h2 } := J.landed ground fl2.1 (up.trans up2) os bare
    obtain ⟨o2, v2, g2, z2, d2⟩ := fl2.there
    have out : a ∉ frs (X.env :: X.outer) := fun q => by
      obtain ⟨_, o, q1, q2⟩ := fl2.2.2.1.mem q
      rw [g2] at q1
      cases q1
      exact q2 _ d2
    have offL : a ≠ X.env.locals := fun q => out (List.mem_filterMap.mpr ⟨X.env, List.mem_cons_self, fr.trans (congrArg some q.symm)⟩)
    have none1 : tI.heap.get? a = none := by
      cases q : tI.heap.get? a with
      | none => rfl
      | some o =>
        have q1 := ground a o q (stk ▸ out)
        rw [fl2.2.1] at q1; cases q1
    have none0 : X.s_0.heap.get? a = none := by
      cases q : X.s_0.heap.get? a with
      | none => rfl
      | some o =>
        obtain ⟨o', q1⟩ := J.base.there a o q (by rw [hex]; simp)
        rw [none1] at q1; cases q1
    have offP : ∀ p ∈ X.pn ++ pins, p.1 ≠ a := fun p hp q => by
      have q1 := (J.pin p hp).1
      rw [q, none1] at q1; cases q1
    have suite : ∀ (t' : Shared) (ob : Obj) (vs : Array Value), Inv X pins σ1 H1 t' → t'.heap.get? a = some ob → Zc (.ref C) d ob → ob.data = .fields vs → Inv (X.suite a (X.pn ++ pins)) [] σ1 (upd H1 a (exv a C d)) t' :=
      fun t' ob vs K e z f => inv_in (inv_pub K e z f free offL none0 offP)
    have K2 := suite _ _ _ J2 g2 z2 d2
    refine wpAny_handleBy_cons (codeAny_handlers_test ?_) (fun q => nomatch q)
    have ty : PySem.W.Looks (model X.prog X.w) h2 (typeOf (.ref a)) (.ref C) := fun _ _ _ _ k q => wpAny_typeOf_ref (k _ _ g2) (by rw [z2.1]; exact q)
    have mt := PySem.W.exm_one (M := model X.prog X.w) J2.kIn ty mt
    have look : ∀ {Q R : Value → Shared → Prop}, Q c { t with heap := h2 } → wpAny (model X.prog X.w) (X.A.mark (some (.ref a))) (eval (.Name x np) X.env) Q R { t with heap := h2 } := fun {Q R} q => by
      obtain ⟨k1, k2, k3 | ⟨k3, k4, k5⟩⟩ := nm
      · exact ld_glob (X := X.suite a (X.pn ++ pins)) K2 k1 k3 q k2
      · exact ld_blt (X := X.suite a (X.pn ++ pins)) K2 k1 k3 k4 q k5 k2
    refine look (mt.here ?_)
    cases g with
    | true =>
      refine codeAny_handlers_suite_as (HandSPX.lands_againZ fl2 fun h3 fl3 up3 => ?_)
      obtain ⟨o3, v3, g3, z3, d3⟩ := fl3.there
      have J3 : Inv X pins σ1 H1 { t with heap := h3 } := J.landed ground fl3.1 ((up.trans up2).trans up3) os bare
      have K3 := suite _ _ _ J3 g3 z3 d3
      refine store_ok (X := X.suite a (X.pn ++ pins)) (v := .ref a) K3 nd ni (.inl nl) rfl (fun t4 K4 => ?_) (.inr nl)
      have go : ∀ {t5 : Shared} {σ5 : L2.St} {H5 : Hp} {Q : Shared → Prop}, Inv (X.suite a (X.pn ++ pins)) [] σ5 H5 t5 → (∀ t6, Inv X pins (σ5.set i none) H5 t6 → Q t6) → wpAny (model X.prog X.w) X.A (do bindName X.env n .none; unbindBehindTheSuite X.env n hp) (fun _ => Q) X.xe t5 :=
        fun K5 q => gone_ok (inv_out K5 OK) nd ni nl q
      refine wpAny_mono ((S a (X.pn ++ pins)).run [] t4 _ _ _ K4 (yes rfl a free)) (fun f t5 sp => ?_) fun _ _ q => q.elim
      cases f with
      | next =>
        obtain ⟨_, _, K5, q⟩ := sp
        exact go K5 fun _ J6 => ⟨_, _, J6, q⟩
      | brk =>
        obtain ⟨_, _, K5, q⟩ := sp
        exact go K5 fun _ J6 => ⟨_, _, J6, q⟩
      | cont =>
        obtain ⟨_, _, K5, q⟩ := sp
        exact go K5 fun _ J6 => ⟨_, _, J6, q⟩
      | ret u =>
        obtain ⟨v, _, _, K5, rv, q⟩ := sp
        exact go K5 fun _ J6 => ⟨v, _, _, J6, rv, q⟩
    | false =>
      refine wpAny_handleBy_nil ?_
      have on : wpAny (model X.prog X.w) X.A (setFlight (.ref a) X.env.frame) (fun _ t3 => wpAny (model X.prog X.w) X.A (throw (.ref a) : Sem Flow) (SP X pins D) X.xe t3) X.xe { t with heap := h2 } := by
        rw [fr]
        refine HandSPX.setFlight_upZ fl2 fun h3 held up3 => wpAny_throw (tk _ _ ⟨a, G, tI, pins, σ1, H1, .ref C, d, rfl, J, ground, (up.trans up2).trans up3, .inr (.inr (stk ▸ held)), free, os, bare, no rfl⟩)
      obtain ⟨_, _, _, o3, v3, T, oT, ts3, q1, q2, q3, q4, _⟩ := id fl2
      unfold PySem.passOn
      refine wpAny_bind (wpAny_field q1 q3 q4 ?_)
      rw [if_neg (by simp : ¬ (Value.ref T == Value.none) = true)]
      first
        | exact wpAny_bind on
        | exact wpAny_bind (wpAny_pure (wpAny_bind on))
  refine wpAny_mono ((B _ _ after catches PassesOwn.looking).run [] s σ H D (I.toTry _) wish) (fun f t sp => ?_) fun _ _ q => q
  cases f with
  | next =>
    obtain ⟨σ2, H2, J, q⟩ := sp
    exact wpAny_execs_nil ⟨σ2, H2, J.ofTry OK, q⟩
  | brk =>
    obtain ⟨σ2, H2, J, q⟩ := sp
    exact ⟨σ2, H2, J.ofTry OK, q⟩
  | cont =>
    obtain ⟨σ2, H2, J, q⟩ := sp
    exact ⟨σ2, H2, J.ofTry OK, q⟩
  | ret u =>
    obtain ⟨v, σ2, H2, J, rv, q⟩ := sp
    exact ⟨v, σ2, H2, J.ofTry OK, rv, q⟩
end
end MS
namespace MS
open PySem PySem.Spec PyProof.Rows L2
/-! ### tuple * int, any int -/
theorem tuple_mulS (l : Addr) (items : Array Value) (n : Nat) (dd : Option Addr) (sl : Array (Option Value)) (x : Int) (u : Tok) (c0 : (decide (x < -(2 ^ 63)) || decide (x ≥ 2 ^ 63)) = false) (c1 : (items.isEmpty || x == 1) = true) :
    Meets (Builtin.«tuple.__mul__» ⟨[.ref l, .int x u], []⟩) (fun _ R s => s.heap.get? l = some { cls := .type "tuple", dict := dd, data := .seq items n, slots := sl } ∧ R (.ok (.ret (Value.ref l))) s) :=
  .of_wp fun prog w A R s h => by
    obtain ⟨hp, g, d, tk, os⟩ := s
    obtain ⟨hl, h⟩ := h
    have f1 := AutoSeq1.idx_int
    wp_walk using wpAny_loadPart' hl
    repeat (first
      | (refine wpAny_ite_false (decide_eq_false (by rw [c0]; exact Bool.false_ne_true)) ?_; wp_walk using wpAny_loadPart' hl)
      | (refine wpAny_ite_true (decide_eq_true c1) ?_; wp_walk using wpAny_loadPart' hl))
    exact ⟨_, rfl, h⟩
theorem tuple_mulZ (l : Addr) (items : Array Value) (n : Nat) (dd : Option Addr) (sl : Array (Option Value)) (x : Int) (u : Tok) (c0 : (decide (x < -(2 ^ 63)) || decide (x ≥ 2 ^ 63)) = false) (c1 : (items.isEmpty || x == 1) = false) (c2 : (decide (x ≤ 0) || items.isEmpty) = true) :
    Meets (Builtin.«tuple.__mul__» ⟨[.ref l, .int x u], []⟩) (fun _ R s => s.heap.get? l = some { cls := .type "tuple", dict := dd, data := .seq items n, slots := sl } ∧
      R (.ok (.ret (Value.ref s.heap.objs.size))) { s with heap := s.heap.push { cls := Value.type "tuple", data := Data.seq #[] } }) :=
  .of_wp fun prog w A R s h => by
    obtain ⟨hp, g, d, tk, os⟩ := s
    obtain ⟨hl, h⟩ := h
    have f1 := AutoSeq1.idx_int
    wp_walk using wpAny_loadPart' hl
    repeat (first
      | (refine wpAny_ite_false (decide_eq_false (by rw [c0]; exact Bool.false_ne_true)) ?_; wp_walk using wpAny_loadPart' hl)
      | (refine wpAny_ite_false (decide_eq_false (by rw [c1]; exact Bool.false_ne_true)) ?_; wp_walk using wpAny_loadPart' hl)
      | (refine wpAny_ite_true (decide_eq_true c2) ?_; wp_walk using wpAny_loadPart' hl))
    exact ⟨_, rfl, h⟩
def rRepA (K : PySem.W.Frag) : R2 := fun x y H Q => ∃ l k xs, x = .ref l ∧ y = .int k ∧ SqT K H l xs ∧ -(2 ^ 62) ≤ k ∧ k ≤ 1000 ∧ (xs.length ≤ 1000 ∨ k ≤ 1) ∧ ((xs = [] ∨ k = 1) → Q (.ref l) H) ∧ (xs ≠ [] → k ≤ 0 → ∀ p, H p = none → Q (.ref p) (upd H p (.tup []))) ∧
  (xs ≠ [] → 2 ≤ k → ∀ p, H p = none → Q (.ref p) (upd H p (.tup (List.replicate k.toNat xs).flatten)))
theorem op_repA {X : Cx} : OpR X (binaryOp .Mult) (rRepA X.K) := by
  intro pins s σ H x y v u Q I rx ry h
  obtain ⟨l, k, xs, rfl, rfl, hT, h1, h2, hz, q1, q2, q3⟩ := h
  have hT0 := hT
  by_cases hx : xs = []
  · cases rx
    obtain ⟨t, rfl⟩ := ry
    obtain ⟨its, r, ⟨⟨cls, dd, data, sl⟩, ho, hc, n, hd⟩, hs⟩ := I.tuple hT
    simp only at hc hd
    subst hc hd
    have hn : its = [] := List.eq_nil_of_length_eq_zero (by rw [← r.length, hx]; rfl)
    have c0 : (decide (k < -(2 ^ 63)) || decide (k ≥ 2 ^ 63)) = false := by
      rw [decide_eq_false (by omega), decide_eq_false (by omega)] <;> rfl
    have c1 : (its.toArray.isEmpty || k == 1) = true := by rw [hn]; rfl
    exact wpAny_binaryOp_repeat_ref (T := "tuple") (U := "int") (by decide) ⟨_, ho, rfl⟩ (fun s' => typeIs_int s' k t) noFill_tuple_mul F.fills_int_mul F.slot_int_rmul repeat_tuple F.slot_int_index.lookup
      (call_meets F.slot_int_rmul (typeIs_int s k t) F.entry_int_rmul (F.args_int_rmul_2 _ _) (int_rmul_tuple k t l its.toArray n dd sl)
        ⟨ho, rfl, ⟨_, ho, rfl⟩, call_meets F.slot_tuple_mul ⟨_, ho, rfl⟩ F.entry_tuple_mul (F.args_tuple_mul_2 _ _) (tuple_mulS l its.toArray n dd sl k t c0 c1) ⟨ho, .ref l, H, I, rfl, q1 (.inl hx)⟩⟩)
  by_cases hk : 2 ≤ k
  · exact op_repT pins s σ H _ _ v u Q I rx ry ⟨l, k, xs, rfl, rfl, hT, hx, hk, h2, by omega, q3 hx hk⟩
  cases rx
  obtain ⟨t, rfl⟩ := ry
  obtain ⟨its, r, ⟨⟨cls, dd, data, sl⟩, ho, hc, n, hd⟩, hs⟩ := I.tuple hT
  simp only at hc hd
  subst hc hd
  have c0 : (decide (k < -(2 ^ 63)) || decide (k ≥ 2 ^ 63)) = false := by
    rw [decide_eq_false (by omega), decide_eq_false (by omega)] <;> rfl
  have hn : its ≠ [] := fun e => hx (by
    have := r.length
    rw [e] at this
    exact List.eq_nil_of_length_eq_zero this)
  have hi : its.toArray.isEmpty = false := by
    cases its with
    | nil => exact absurd rfl hn
    | cons a b => rfl
  by_cases h1' : k = 1
  · have c1 : (its.toArray.isEmpty || k == 1) = true := by rw [h1']; simp
    exact wpAny_binaryOp_repeat_ref (T := "tuple") (U := "int") (by decide) ⟨_, ho, rfl⟩ (fun s' => typeIs_int s' k t) noFill_tuple_mul F.fills_int_mul F.slot_int_rmul repeat_tuple F.slot_int_index.lookup
      (call_meets F.slot_int_rmul (typeIs_int s k t) F.entry_int_rmul (F.args_int_rmul_2 _ _) (int_rmul_tuple k t l its.toArray n dd sl)
        ⟨ho, rfl, ⟨_, ho, rfl⟩, call_meets F.slot_tuple_mul ⟨_, ho, rfl⟩ F.entry_tuple_mul (F.args_tuple_mul_2 _ _) (tuple_mulS l its.toArray n dd sl k t c0 c1) ⟨ho, .ref l, H, I, rfl, q1 (.inr h1')⟩⟩)
  · have c1 : (its.toArray.isEmpty || k == 1) = false := by
      rw [hi, Bool.false_or]
      exact beq_eq_false_iff_ne.mpr h1'
    have c2 : (decide (k ≤ 0) || its.toArray.isEmpty) = true := by
      rw [decide_eq_true (by omega)]; rfl
    refine wpAny_binaryOp_repeat_ref (T := "tuple") (U := "int") (by decide) ⟨_, ho, rfl⟩ (fun s' => typeIs_int s' k t) noFill_tuple_mul F.fills_int_mul F.slot_int_rmul repeat_tuple F.slot_int_index.lookup
      (call_meets F.slot_int_rmul (typeIs_int s k t) F.entry_int_rmul (F.args_int_rmul_2 _ _) (int_rmul_tuple k t l its.toArray n dd sl)
        ⟨ho, rfl, ⟨_, ho, rfl⟩, call_meets F.slot_tuple_mul ⟨_, ho, rfl⟩ F.entry_tuple_mul (F.args_tuple_mul_2 _ _) (tuple_mulZ l its.toArray n dd sl k t c0 c1 c2) ⟨ho, ?_⟩⟩)
    refine ⟨.ref s.heap.objs.size, _, I.laid (t' := s.toks) (o := .tup []) (fun b ob q => Heap.get?_push_of_some _ q) (Nat.le_refl _) ?_, rfl, q2 hx (by omega) _ (I.hok.fresh (Nat.le_refl _))⟩
    exact ⟨Nat.zero_le _, [], .nil, IsTup.new _ _⟩
/-! ### xs.extend(t), t a tuple -/
theorem list_extendT (l : Addr) (items : Array Value) (n : Nat) (b : Addr) (its : Array Value) (m : Nat) (dd : Option Addr) (sl : Array (Option Value)) (h0 : ¬(!items.isEmpty && Builtin.List.listTooLong (items.size + its.size)) = true) (h1 : items.size ≤ sizeLine) (h2 : items.size + its.size ≤ sizeLine + 1) :
    Meets (Builtin.«list.extend» ⟨[.ref l, .ref b], []⟩) (fun _ R s => s.heap.get? l = some { cls := .type "list", dict := none, data := .seq items n, slots := #[] } ∧ s.heap.get? b = some { cls := .type "tuple", dict := dd, data := .seq its m, slots := sl } ∧
      R (.ok (.ret Value.none)) { s with heap := s.heap.update l (Obj.mapSeq fun x => x ++ its), toks := s.toks }) :=
  .of_wp fun prog w A R s h => by
    obtain ⟨hp, g, d, tk, os⟩ := s
    obtain ⟨hl, hb, h⟩ := h
    have f2 := AutoSeq1.sub_tuple_tuple
    have f4 := AutoSeq1.sub_tuple_list
    have hz' : (items ++ its).size ≤ sizeLine + 1 := by rw [Array.size_append]; exact h2
    wp_walk using (wpAny_updateSeq hl rfl (hz := h1) (_hz' := hz')), wpAny_loadPart' hl, wpAny_loadPart' hb
    exact ⟨_, rfl, h⟩
def rExtT (K : PySem.W.Frag) : V → List V → Hp → VK → Prop := fun x vs H Q => ∃ l b xs zs, x = .ref l ∧ vs = [.ref b] ∧ H l = some (.lst xs) ∧ SqT K H b zs ∧ xs.length + zs.length ≤ sizeLine ∧ Q .non (upd H l (.lst (xs ++ zs)))
theorem mt_extT {X : Cx} : MtM X "list.extend" (rExtT X.K) := by
  intro pins s σ H x vs v us Q I rx rv ⟨l, b, xs, zs, ex, ev, hl, hb, hz, q⟩
  subst ex ev
  cases rx
  obtain ⟨u, eu, ru⟩ := rv.one
  subst eu
  cases ru
  obtain ⟨z1, i1, n1, r1, e1, g1⟩ := I.lstM hl
  obtain ⟨i2, r2, ⟨⟨cls, dd, data, sl⟩, ho, hc, m, hd⟩, z2⟩ := I.tuple hb
  simp only at hc hd
  subst hc hd
  have e2 := r2.length
  have s1 : i1.toArray.size = i1.length := List.size_toArray
  have s2 : i2.toArray.size = i2.length := List.size_toArray
  have lim : Builtin.List.listTooLong (i1.toArray.size + i2.toArray.size) = false := notLongL (by omega)
  have h0 : ¬(!i1.toArray.isEmpty && Builtin.List.listTooLong (i1.toArray.size + i2.toArray.size)) = true := by rw [lim]; simp
  have J := I.lset (its' := i1 ++ i2) (f := fun a => a ++ i2.toArray) (ys := xs ++ zs) (t' := s.toks) hl g1 (by simp) (r1.append r2) (by rw [List.length_append]; omega)
  exact call_meets F.slot_list_extend ⟨_, g1, rfl⟩ F.entry_list_extend (F.args_list_extend_2 _ _) (list_extendT l i1.toArray n1 b i2.toArray m dd sl h0 (by omega) (by omega)) ⟨g1, ho, .non, _, J, rfl, q⟩
end MS
namespace MS
open PySem PySem.Spec PyProof.Rows L2

/-! ### values in the heap -/
/-- what may be changed: a list, a dict -/
inductive MO where
  | l (xs : List V) | k (kvs : List (Key × V)) | t (kvs : List (List Key × V))
@[reducible] def MO.ho : MO → HO
  | .l xs => .lst xs
  | .k kvs => .dK kvs
  | .t kvs => .dT kvs
def Mu (H : Hp) (a : Addr) : Prop := ∃ m : MO, H a = some m.ho
theorem Mu.of {H : Hp} {a : Addr} {xs : List V} (h : H a = some (.lst xs)) : Mu H a := ⟨.l xs, h⟩
theorem Mu.frz {H : Hp} {a : Addr} {o : Obj} {u : HO} (m : Mu H a) (h : H a = some (.frz o u)) : False := by
  obtain ⟨m, e⟩ := m
  rw [h] at e
  cases m <;> cases e
theorem Mu.tup {H : Hp} {a : Addr} {xs : List V} (m : Mu H a) (h : H a = some (.tup xs)) : False := by
  obtain ⟨m, e⟩ := m
  rw [h] at e
  cases m <;> cases e
theorem Mu.ne {H : Hp} {a : Addr} (m : Mu H a) : H a ≠ none := by
  obtain ⟨m, e⟩ := m
  rw [e]; simp
/-- a dict with whole numbers, or rows of such, as keys -/
def DcAt (H : Hp) (a : Addr) (kvs : List (D × D)) (xs : List V) : Prop :=
  (∃ hk : List (Int × V), H a = some (.dK (hk.map fun p => (.inl p.1, p.2))) ∧ kvs.map (·.1) = hk.map (fun p => PyData.int p.1) ∧ xs = hk.map (·.2)) ∨
  ∃ hk : List (List Int × V), H a = some (.dT (hk.map fun p => (p.1.map .inl, p.2))) ∧ kvs.map (·.1) = .bool true :: hk.map (fun p => PyData.tuple (intsD p.1)) ∧ xs = .non :: hk.map (·.2)
theorem DcAt.mu {H : Hp} {a : Addr} {kvs : List (D × D)} {xs : List V} (h : DcAt H a kvs xs) : Mu H a := by
  rcases h with ⟨hk, h, _⟩ | ⟨hk, h, _⟩
  · exact ⟨.k _, h⟩
  · exact ⟨.t _, h⟩
theorem DcAt.imp {H H' : Hp} {a : Addr} {kvs : List (D × D)} {xs : List V} (k : ∀ m : MO, H a = some m.ho → H' a = some m.ho) (h : DcAt H a kvs xs) : DcAt H' a kvs xs := by
  rcases h with ⟨hk, h, z⟩ | ⟨hk, h, z⟩
  · exact .inl ⟨hk, k (.k _) h, z⟩
  · exact .inr ⟨hk, k (.t _) h, z⟩
/-- a written list -/
def KLst (K : PySem.W.Frag) (a : Addr) (xs : List V) : Prop :=
  ∃ (o : Obj) (its : Array Value) (n : Nat), K.lookup a = some o ∧ o.cls = .type "list" ∧ o.dict = none ∧ o.data = .seq its n ∧ its.size ≤ sizeLine ∧ Vals xs its.toList
/-- an exception: the name of its class stands behind the top for the class at C -/
def DvX0 (K : PySem.W.Frag) (H : Hp) (kvs : List (D × D)) (v : V) : Prop := ∃ (c : String) (a C : Addr), v = .ref a ∧ c ∈ allC ∧ PySem.W.nsIn K mainGlobals (Str.ofString c) = some (some (.ref C)) ∧
  ((kvs = excKv ⟨c, []⟩ ∧ H a = some (exv a C none)) ∨ ∃ (i : Int) (dd : Addr), c = "NoDigit" ∧ kvs = excKv ⟨c, [("place", .int i)]⟩ ∧ H a = some (exv a C (some dd)) ∧ H dd = some (.xd [(Str.ofString "place", .int i)]))
/-- a def, as a value -/
def DvF (K : PySem.W.Frag) (kvs : List (D × D)) (v : V) : Prop := ∃ (f : String) (a : Addr), v = .ref a ∧ kvs = fnKv f ∧ PySem.W.nsIn K mainGlobals (Str.ofString f) = some (some (.ref a))
def DvX (K : PySem.W.Frag) (H : Hp) (kvs : List (D × D)) (v : V) : Prop := DvX0 K H kvs v ∨ DvF K kvs v
/-- such things never change -/
inductive IsX : HO → Prop
  | ext (φ : Heap → Prop) : IsX (.ext φ)
  | xd (fs : List (Str × V)) : IsX (.xd fs)
theorem Mu.x {H : Hp} {a : Addr} {o : HO} (m : Mu H a) (x : IsX o) (h : H a = some o) : False := by
  obtain ⟨m, e⟩ := m
  rw [h] at e
  cases m <;> (cases e; cases x)
theorem DvX.imp {K : PySem.W.Frag} {H H' : Hp} {kvs : List (D × D)} {v : V} (h : DvX K H kvs v) (k : ∀ a o, IsX o → H a = some o → H' a = some o) : DvX K H' kvs v := by
  rcases h with h | h
  · obtain ⟨c, a, C, rfl, hc, n, h | ⟨i, dd, e0, e, h1, h2⟩⟩ := h
    · exact .inl ⟨c, a, C, rfl, hc, n, .inl ⟨h.1, k _ _ (.ext _) h.2⟩⟩
    · exact .inl ⟨c, a, C, rfl, hc, n, .inr ⟨i, dd, e0, e, k _ _ (.ext _) h1, k _ _ (.xd _) h2⟩⟩
  · exact .inr h
section
variable (K : PySem.W.Frag) (F : Addr → Prop) (H : Hp)
mutual
/-- v is the shared datum d: its lists stand at addresses that F keeps -/
def Dv : D → V → Prop
  | .none, v => v = .non
  | .bool b, v => v = .bl b
  | .int i, v => v = .int i
  | .str x, v => v = .str x
  | .list ds, v => ∃ a xs, v = .ref a ∧ F a ∧ H a = some (.lst xs) ∧ DvA ds xs
  | .tuple ds, v => ∃ a xs, v = .ref a ∧ SqT K H a xs ∧ DvA ds xs
  | .dict kvs, v => DvX K H kvs v ∨ ∃ a xs, v = .ref a ∧ F a ∧ DcAt H a kvs xs ∧ DvK kvs xs
def DvA : List D → List V → Prop
  | [], xs => xs = []
  | d :: ds, xs => ∃ x xr, xs = x :: xr ∧ Dv d x ∧ DvA ds xr
def DvK : List (D × D) → List V → Prop
  | [], xs => xs = []
  | (_, d) :: kvs, xs => ∃ x xr, xs = x :: xr ∧ Dv d x ∧ DvK kvs xr
end
/-- a list that is only read: written, or known to the caller -/
def RawL (a : Addr) (xs : List V) : Prop := (∃ o, H a = some (.frz o (.lst xs))) ∨ KLst K a xs
def RawD : D → V → Prop
  | .list ds, v => ∃ a xs, v = .ref a ∧ RawL K H a xs ∧ DvA K F H ds xs
  | d, v => isScal d = true ∧ Dv K F H d v
mutual
/-- v is the datum d, owned as p tells, by the addresses f -/
def Ow : D → Perm → V → List Addr → Prop
  | .list ds, .own p, v, f => ∃ a xs g, v = .ref a ∧ H a = some (.lst xs) ∧ f = a :: g ∧ OwA ds p xs g ∧ True
  | .dict kvs, .own p, v, f => ∃ a xs g, v = .ref a ∧ DcAt H a kvs xs ∧ f = a :: g ∧ OwK kvs p xs g ∧ True
  | .tuple ds, .own _, v, f => f = [] ∧ Dv K F H (.tuple ds) v ∧ ∃ a xs, v = .ref a ∧ H a = some (.tup xs) ∧ DvA K F H ds xs
  | d, .own _, v, f => isScal d = true ∧ f = [] ∧ Dv K F H d v
  | d, .sh, v, f => f = [] ∧ Dv K F H d v
  | d, .raw, v, f => f = [] ∧ RawD K F H d v
def OwK : List (D × D) → Perm → List V → List Addr → Prop
  | [], _, xs, f => xs = [] ∧ f = []
  | (_, d) :: kvs, p, xs, f => ∃ x xr f1 f2, xs = x :: xr ∧ f = f1 ++ f2 ∧ Ow d p x f1 ∧ OwK kvs p xr f2
def OwA : List D → Perm → List V → List Addr → Prop
  | [], _, xs, f => xs = [] ∧ f = []
  | d :: ds, p, xs, f => ∃ x xr f1 f2, xs = x :: xr ∧ f = f1 ++ f2 ∧ Ow d p x f1 ∧ OwA ds p xr f2
end
end

section
variable {K : PySem.W.Frag} {F F' : Addr → Prop} {H H' : Hp}
theorem DvA.length : ∀ {ds : List D} {xs : List V}, DvA K F H ds xs → xs.length = ds.length
  | [], xs, h => by simp only [DvA] at h; subst h; rfl
  | d :: ds, xs, h => by
    simp only [DvA] at h
    obtain ⟨x, xr, rfl, _, h2⟩ := h
    simp [DvA.length h2]
theorem OwA.length : ∀ {ds : List D} {p : Perm} {xs : List V} {f : List Addr}, OwA K F H ds p xs f → xs.length = ds.length
  | [], p, xs, f, h => by simp only [OwA] at h; obtain ⟨rfl, _⟩ := h; rfl
  | d :: ds, p, xs, f, h => by
    simp only [OwA] at h
    obtain ⟨x, xr, f1, f2, rfl, _, _, h2⟩ := h
    simp [OwA.length h2]
theorem Dv_scal {d : D} {v : V} (h : isScal d = true) (hv : Dv K F H d v) : Dv K F' H' d v := by
  cases d <;> first | (simp only [Dv] at hv ⊢; exact hv) | (simp [isScal] at h)

/-- what a change may do: outside of A all stays; the kept lists stay kept, newly kept are such of A or new ones -/
structure Chg (F : Addr → Prop) (H : Hp) (F' : Addr → Prop) (H' : Hp) (A : List Addr) : Prop where
  mono : ∀ a, F a → F' a
  new : ∀ a, F' a → F a ∨ a ∈ A ∨ H a = none
  keep : ∀ b o, H b = some o → b ∉ A → H' b = some o
  dom : ∀ b, H b ≠ none → H' b ≠ none
theorem Chg.refl {A : List Addr} : Chg F H F H A := ⟨fun _ h => h, fun _ h => .inl h, fun _ _ h _ => h, fun _ h => h⟩
theorem Chg.weak {A B : List Addr} (c : Chg F H F' H' A) (h : ∀ a ∈ A, a ∈ B) : Chg F H F' H' B :=
  ⟨c.mono, fun a q => (c.new a q).imp id (Or.imp (h a) id), fun b o e n => c.keep b o e fun z => n (h b z), c.dom⟩
theorem Chg.trans {F1 : Addr → Prop} {H1 : Hp} {A B : List Addr} (c : Chg F H F1 H1 A) (d : Chg F1 H1 F' H' B) (hB : ∀ b ∈ B, b ∈ A ∨ H b = none) : Chg F H F' H' A := by
  refine ⟨fun a h => d.mono a (c.mono a h), fun a h => ?_, fun b o e n => ?_, fun b h => d.dom b (c.dom b h)⟩
  · rcases d.new a h with h | h | h
    · exact c.new a h
    · rcases hB a h with z | z
      · exact .inr (.inl z)
      · exact .inr (.inr z)
    · refine .inr (.inr ?_)
      cases e : H a with
      | none => rfl
      | some o => exact absurd h (c.dom a (by rw [e]; simp))
  · refine d.keep b o (c.keep b o e n) fun z => ?_
    rcases hB b z with z | z
    · exact n z
    · rw [e] at z; cases z
/-- kept lists are there, and none of A -/
structure Base (F : Addr → Prop) (H : Hp) (A : List Addr) : Prop where
  there : ∀ a, F a → H a ≠ none
  off : ∀ a ∈ A, ¬ F a
  lst : ∀ a ∈ A, Mu H a

theorem Chg.rdL {A : List Addr} (c : Chg F H F' H' A) (off : ∀ a ∈ A, ¬ F a) {a : Addr} {o : HO} (hf : F a) (h : H a = some o) : H' a = some o :=
  c.keep a _ h fun z => off a z hf
theorem Chg.raw {A : List Addr} (c : Chg F H F' H' A) (lst : ∀ a ∈ A, Mu H a) {a : Addr} {xs : List V} (h : RawL K H a xs) : RawL K H' a xs := by
  rcases h with ⟨o, h⟩ | h
  · exact .inl ⟨o, c.keep a _ h fun z => (lst a z).frz h⟩
  · exact .inr h
theorem Chg.rdX {A : List Addr} (c : Chg F H F' H' A) (lst : ∀ a ∈ A, Mu H a) {a : Addr} {o : HO} (x : IsX o) (h : H a = some o) : H' a = some o := c.keep a _ h fun z => (lst a z).x x h
theorem Chg.rdT {A : List Addr} (c : Chg F H F' H' A) (lst : ∀ a ∈ A, Mu H a) {a : Addr} {xs : List V} (h : SqT K H a xs) : SqT K H' a xs := by
  rcases h with (h | ⟨o, h⟩) | h
  · exact .inl (.inl (c.keep a _ h fun z => (lst a z).tup h))
  · exact .inl (.inr ⟨o, c.keep a _ h fun z => (lst a z).frz h⟩)
  · exact .inr h
mutual
theorem Dv.imp (h1 : ∀ a (m : MO), F a → H a = some m.ho → F' a ∧ H' a = some m.ho) (h2 : ∀ a xs, SqT K H a xs → SqT K H' a xs) (h3 : ∀ a o, IsX o → H a = some o → H' a = some o) : ∀ (d : D) (v : V), Dv K F H d v → Dv K F' H' d v
  | .none, v, h => by simp only [Dv] at h ⊢; exact h
  | .bool b, v, h => by simp only [Dv] at h ⊢; exact h
  | .int i, v, h => by simp only [Dv] at h ⊢; exact h
  | .str x, v, h => by simp only [Dv] at h ⊢; exact h
  | .list ds, v, h => by
    simp only [Dv] at h ⊢
    obtain ⟨a, xs, rfl, hf, q, h4⟩ := h
    obtain ⟨q1, q2⟩ := h1 a (.l xs) hf q
    exact ⟨a, xs, rfl, q1, q2, DvA.imp h1 h2 h3 ds xs h4⟩
  | .tuple ds, v, h => by
    simp only [Dv] at h ⊢
    obtain ⟨a, xs, rfl, q, h4⟩ := h
    exact ⟨a, xs, rfl, h2 a xs q, DvA.imp h1 h2 h3 ds xs h4⟩
  | .dict kvs, v, h => by
    simp only [Dv] at h ⊢
    rcases h with h | ⟨a, xs, rfl, hf, q, h4⟩
    · exact .inl (h.imp h3)
    · have hm := q.mu
      refine .inr ⟨a, xs, rfl, ?_, q.imp fun m e => (h1 a m hf e).2, DvK.imp h1 h2 h3 kvs xs h4⟩
      obtain ⟨m, e⟩ := hm
      exact (h1 a m hf e).1
theorem DvK.imp (h1 : ∀ a (m : MO), F a → H a = some m.ho → F' a ∧ H' a = some m.ho) (h2 : ∀ a xs, SqT K H a xs → SqT K H' a xs) (h3 : ∀ a o, IsX o → H a = some o → H' a = some o) : ∀ (kvs : List (D × D)) (xs : List V), DvK K F H kvs xs → DvK K F' H' kvs xs
  | [], xs, h => by simp only [DvK] at h ⊢; exact h
  | (k, d) :: kvs, xs, h => by
    simp only [DvK] at h ⊢
    obtain ⟨x, xr, rfl, q, h4⟩ := h
    exact ⟨x, xr, rfl, Dv.imp h1 h2 h3 d x q, DvK.imp h1 h2 h3 kvs xr h4⟩
theorem DvA.imp (h1 : ∀ a (m : MO), F a → H a = some m.ho → F' a ∧ H' a = some m.ho) (h2 : ∀ a xs, SqT K H a xs → SqT K H' a xs) (h3 : ∀ a o, IsX o → H a = some o → H' a = some o) : ∀ (ds : List D) (xs : List V), DvA K F H ds xs → DvA K F' H' ds xs
  | [], xs, h => by simp only [DvA] at h ⊢; exact h
  | d :: ds, xs, h => by
    simp only [DvA] at h ⊢
    obtain ⟨x, xr, rfl, q, h4⟩ := h
    exact ⟨x, xr, rfl, Dv.imp h1 h2 h3 d x q, DvA.imp h1 h2 h3 ds xr h4⟩
end
/-- exceptions and defs are no such dicts -/
theorem Dv_dx {kvs : List (D × D)} {v : V} (o : Dv K F H (.dict kvs) v) (n : ∃ k d r, kvs = (k, d) :: r ∧ (k = .none ∨ ∃ s, k = .str s)) : DvX K H kvs v := by
  simp only [Dv] at o
  rcases o with o | ⟨a, xs, _, _, o, _⟩
  · exact o
  · exfalso
    obtain ⟨k, d, r, rfl, hk⟩ := n
    rcases o with ⟨hk1, _, e, _⟩ | ⟨hk1, _, e, _⟩
    · cases hk1 with
      | nil => simp at e
      | cons p q =>
        simp only [List.map_cons, List.cons.injEq] at e
        rcases hk with rfl | ⟨s, rfl⟩ <;> exact nomatch e.1
    · simp only [List.map_cons, List.cons.injEq] at e
      rcases hk with rfl | ⟨s, rfl⟩ <;> exact nomatch e.1
theorem Dv.mono {G : Addr → Prop} (h : ∀ a, F a → G a) {d : D} {v : V} (q : Dv K F H d v) : Dv K G H d v := Dv.imp (fun a xs hf r => ⟨h a hf, r⟩) (fun _ _ q => q) (fun _ _ _ q => q) d v q
theorem Dv.chg {A : List Addr} (c : Chg F H F' H' A) (off : ∀ a ∈ A, ¬ F a) (lst : ∀ a ∈ A, Mu H a) (d : D) (v : V) (h : Dv K F H d v) : Dv K F' H' d v :=
  Dv.imp (fun a xs hf r => ⟨c.mono a hf, c.rdL off hf r⟩) (fun a xs q => c.rdT lst q) (fun a o x q => c.rdX lst x q) d v h
theorem DvA.chg {A : List Addr} (c : Chg F H F' H' A) (off : ∀ a ∈ A, ¬ F a) (lst : ∀ a ∈ A, Mu H a) (ds : List D) (xs : List V) (h : DvA K F H ds xs) : DvA K F' H' ds xs :=
  DvA.imp (fun a xs hf r => ⟨c.mono a hf, c.rdL off hf r⟩) (fun a xs q => c.rdT lst q) (fun a o x q => c.rdX lst x q) ds xs h
theorem RawD.chg {A : List Addr} (c : Chg F H F' H' A) (off : ∀ a ∈ A, ¬ F a) (lst : ∀ a ∈ A, Mu H a) {d : D} {v : V} (h : RawD K F H d v) : RawD K F' H' d v := by
  cases d with
  | list ds =>
    obtain ⟨a, xs, rfl, h1, h2⟩ := h
    exact ⟨a, xs, rfl, c.raw lst h1, DvA.chg c off lst ds xs h2⟩
  | _ => exact ⟨h.1, Dv_scal h.1 h.2⟩
mutual
/-- what is owned by addresses outside of A stays -/
theorem Ow.chg {A : List Addr} (c : Chg F H F' H' A) (off : ∀ a ∈ A, ¬ F a) (lst : ∀ a ∈ A, Mu H a) : ∀ (d : D) (p : Perm) (v : V) (f : List Addr), (∀ a ∈ f, a ∉ A) → Ow K F H d p v f → Ow K F' H' d p v f
  | .list ds, .own p, v, f, n, h => by
    simp only [Ow] at h ⊢
    obtain ⟨a, xs, g, rfl, h1, rfl, h2⟩ := h
    exact ⟨a, xs, g, rfl, c.keep a _ h1 (n a (by simp)), rfl, OwA.chg c off lst ds p xs g (fun b hb => n b (by simp [hb])) h2.1, h2.2⟩
  | .list ds, .sh, v, f, n, h => by simp only [Ow] at h ⊢; exact ⟨h.1, Dv.chg c off lst _ v h.2⟩
  | .list ds, .raw, v, f, n, h => by simp only [Ow] at h ⊢; exact ⟨h.1, RawD.chg c off lst h.2⟩
  | .none, p, v, f, n, h => by cases p <;> simp only [Ow] at h ⊢ <;> first | exact ⟨h.1, Dv.chg c off lst _ v h.2⟩ | exact ⟨h.1, h.2.1, Dv.chg c off lst _ v h.2.2⟩ | exact ⟨h.1, RawD.chg c off lst h.2⟩
  | .bool _, p, v, f, n, h => by cases p <;> simp only [Ow] at h ⊢ <;> first | exact ⟨h.1, Dv.chg c off lst _ v h.2⟩ | exact ⟨h.1, h.2.1, Dv.chg c off lst _ v h.2.2⟩ | exact ⟨h.1, RawD.chg c off lst h.2⟩
  | .int _, p, v, f, n, h => by cases p <;> simp only [Ow] at h ⊢ <;> first | exact ⟨h.1, Dv.chg c off lst _ v h.2⟩ | exact ⟨h.1, h.2.1, Dv.chg c off lst _ v h.2.2⟩ | exact ⟨h.1, RawD.chg c off lst h.2⟩
  | .str _, p, v, f, n, h => by cases p <;> simp only [Ow] at h ⊢ <;> first | exact ⟨h.1, Dv.chg c off lst _ v h.2⟩ | exact ⟨h.1, h.2.1, Dv.chg c off lst _ v h.2.2⟩ | exact ⟨h.1, RawD.chg c off lst h.2⟩
  | .tuple _, .sh, v, f, n, h => by simp only [Ow] at h ⊢; exact ⟨h.1, Dv.chg c off lst _ v h.2⟩
  | .tuple _, .raw, v, f, n, h => by simp only [Ow] at h ⊢; exact ⟨h.1, RawD.chg c off lst h.2⟩
  | .tuple _, .own _, v, f, n, h => by
    simp only [Ow] at h ⊢
    obtain ⟨h1, h2, a, xs, e, h3, h4⟩ := h
    exact ⟨h1, Dv.chg c off lst _ v h2, a, xs, e, c.keep a _ h3 fun z => (lst a z).tup h3, DvA.chg c off lst _ _ h4⟩
  | .dict _, .sh, v, f, n, h => by simp only [Ow] at h ⊢; exact ⟨h.1, Dv.chg c off lst _ v h.2⟩
  | .dict _, .raw, v, f, n, h => by simp only [Ow] at h ⊢; exact ⟨h.1, RawD.chg c off lst h.2⟩
  | .dict kvs, .own p, v, f, n, h => by
    simp only [Ow] at h ⊢
    obtain ⟨a, xs, g, rfl, h1, rfl, h2⟩ := h
    exact ⟨a, xs, g, rfl, h1.imp fun m e => c.keep a _ e (n a (by simp)), rfl, OwK.chg c off lst kvs p xs g (fun b hb => n b (by simp [hb])) h2.1, h2.2⟩
theorem OwK.chg {A : List Addr} (c : Chg F H F' H' A) (off : ∀ a ∈ A, ¬ F a) (lst : ∀ a ∈ A, Mu H a) : ∀ (kvs : List (D × D)) (p : Perm) (xs : List V) (f : List Addr), (∀ a ∈ f, a ∉ A) → OwK K F H kvs p xs f → OwK K F' H' kvs p xs f
  | [], p, xs, f, n, h => by simp only [OwK] at h ⊢; exact h
  | (_, d) :: kvs, p, xs, f, n, h => by
    simp only [OwK] at h ⊢
    obtain ⟨x, xr, f1, f2, rfl, rfl, h1, h2⟩ := h
    exact ⟨x, xr, f1, f2, rfl, rfl, Ow.chg c off lst d p x f1 (fun a ha => n a (by simp [ha])) h1, OwK.chg c off lst kvs p xr f2 (fun a ha => n a (by simp [ha])) h2⟩
theorem OwA.chg {A : List Addr} (c : Chg F H F' H' A) (off : ∀ a ∈ A, ¬ F a) (lst : ∀ a ∈ A, Mu H a) : ∀ (ds : List D) (p : Perm) (xs : List V) (f : List Addr), (∀ a ∈ f, a ∉ A) → OwA K F H ds p xs f → OwA K F' H' ds p xs f
  | [], p, xs, f, n, h => by simp only [OwA] at h ⊢; exact h
  | d :: ds, p, xs, f, n, h => by
    simp only [OwA] at h ⊢
    obtain ⟨x, xr, f1, f2, rfl, rfl, h1, h2⟩ := h
    exact ⟨x, xr, f1, f2, rfl, rfl, Ow.chg c off lst d p x f1 (fun a ha => n a (by simp [ha])) h1, OwA.chg c off lst ds p xr f2 (fun a ha => n a (by simp [ha])) h2⟩
end
theorem Ow_sh {d : D} {v : V} {f : List Addr} : Ow K F H d .sh v f ↔ f = [] ∧ Dv K F H d v := by
  cases d <;> simp only [Ow]
theorem Ow_own_scal {d : D} {p : Perm} {v : V} {f : List Addr} (h : isScal d = true) : Ow K F H d (.own p) v f ↔ f = [] ∧ Dv K F H d v := by
  cases d <;> first | (simp [isScal] at h; done) | (simp only [Ow]; simp [isScal])
theorem Ow_list {ds : List D} {p : Perm} {v : V} {f : List Addr} : Ow K F H (.list ds) (.own p) v f ↔ ∃ a xs g, v = .ref a ∧ H a = some (.lst xs) ∧ f = a :: g ∧ OwA K F H ds p xs g ∧ True := by
  simp only [Ow]
theorem OwK_sh : ∀ {kvs : List (D × D)} {xs : List V} {f : List Addr}, OwK K F H kvs .sh xs f ↔ f = [] ∧ DvK K F H kvs xs
  | [], xs, f => by simp only [OwK, DvK]; exact And.comm
  | (_, d) :: kvs, xs, f => by
    simp only [OwK, DvK]
    constructor
    · rintro ⟨x, xr, f1, f2, rfl, rfl, h1, h2⟩
      rw [Ow_sh] at h1
      rw [OwK_sh] at h2
      obtain ⟨rfl, h1⟩ := h1
      obtain ⟨rfl, h2⟩ := h2
      exact ⟨rfl, x, xr, rfl, h1, h2⟩
    · rintro ⟨rfl, x, xr, rfl, h1, h2⟩
      exact ⟨x, xr, [], [], rfl, rfl, Ow_sh.mpr ⟨rfl, h1⟩, OwK_sh.mpr ⟨rfl, h2⟩⟩
theorem Ow_dict {kvs : List (D × D)} {p : Perm} {v : V} {f : List Addr} : Ow K F H (.dict kvs) (.own p) v f ↔ ∃ a xs g, v = .ref a ∧ DcAt H a kvs xs ∧ f = a :: g ∧ OwK K F H kvs p xs g ∧ True := by
  simp only [Ow]
theorem Ow_tup {ds : List D} {p : Perm} {v : V} {f : List Addr} : Ow K F H (.tuple ds) (.own p) v f ↔ f = [] ∧ Dv K F H (.tuple ds) v ∧ ∃ a xs, v = .ref a ∧ H a = some (.tup xs) ∧ DvA K F H ds xs := by
  simp only [Ow]
theorem Ow_raw {d : D} {v : V} {f : List Addr} : Ow K F H d .raw v f ↔ f = [] ∧ RawD K F H d v := by
  cases d <;> simp only [Ow]
theorem OwA_cons {d : D} {ds : List D} {p : Perm} {xs : List V} {f : List Addr} : OwA K F H (d :: ds) p xs f ↔ ∃ x xr f1 f2, xs = x :: xr ∧ f = f1 ++ f2 ∧ Ow K F H d p x f1 ∧ OwA K F H ds p xr f2 := by
  simp only [OwA]
theorem OwA_nil {p : Perm} {xs : List V} {f : List Addr} : OwA K F H [] p xs f ↔ xs = [] ∧ f = [] := by simp only [OwA]
theorem DvA_cons {d : D} {ds : List D} {xs : List V} : DvA K F H (d :: ds) xs ↔ ∃ x xr, xs = x :: xr ∧ Dv K F H d x ∧ DvA K F H ds xr := by simp only [DvA]
theorem DvA_nil {xs : List V} : DvA K F H [] xs ↔ xs = [] := by simp only [DvA]
theorem OwA_sh : ∀ {ds : List D} {xs : List V} {f : List Addr}, OwA K F H ds .sh xs f ↔ f = [] ∧ DvA K F H ds xs
  | [], xs, f => by rw [OwA_nil, DvA_nil]; exact And.comm
  | d :: ds, xs, f => by
    rw [OwA_cons, DvA_cons]
    constructor
    · rintro ⟨x, xr, f1, f2, rfl, rfl, h1, h2⟩
      rw [Ow_sh] at h1
      rw [OwA_sh] at h2
      obtain ⟨rfl, h1⟩ := h1
      obtain ⟨rfl, h2⟩ := h2
      exact ⟨rfl, x, xr, rfl, h1, h2⟩
    · rintro ⟨rfl, x, xr, rfl, h1, h2⟩
      exact ⟨x, xr, [], [], rfl, rfl, Ow_sh.mpr ⟨rfl, h1⟩, OwA_sh.mpr ⟨rfl, h2⟩⟩
mutual
/-- the owning addresses are lists -/
theorem Ow.lst : ∀ (d : D) (p : Perm) (v : V) (f : List Addr), Ow K F H d p v f → ∀ a ∈ f, Mu H a
  | .list ds, .own p, v, f, h => by
    rw [Ow_list] at h
    obtain ⟨a, xs, g, rfl, h1, rfl, h2⟩ := h
    intro b hb
    rcases List.mem_cons.mp hb with rfl | hb
    · exact .of h1
    · exact OwA.lst ds p xs g h2.1 b hb
  | .list ds, .sh, v, f, h => by rw [Ow_sh] at h; rw [h.1]; exact fun _ z => nomatch z
  | .list ds, .raw, v, f, h => by rw [Ow_raw] at h; rw [h.1]; exact fun _ z => nomatch z
  | .none, p, v, f, h => by cases p <;> (simp only [Ow] at h) <;> first | (rw [h.1]; exact fun _ z => nomatch z) | (rw [h.2.1]; exact fun _ z => nomatch z)
  | .bool _, p, v, f, h => by cases p <;> (simp only [Ow] at h) <;> first | (rw [h.1]; exact fun _ z => nomatch z) | (rw [h.2.1]; exact fun _ z => nomatch z)
  | .int _, p, v, f, h => by cases p <;> (simp only [Ow] at h) <;> first | (rw [h.1]; exact fun _ z => nomatch z) | (rw [h.2.1]; exact fun _ z => nomatch z)
  | .str _, p, v, f, h => by cases p <;> (simp only [Ow] at h) <;> first | (rw [h.1]; exact fun _ z => nomatch z) | (rw [h.2.1]; exact fun _ z => nomatch z)
  | .tuple _, p, v, f, h => by cases p <;> (simp only [Ow] at h) <;> first | (rw [h.1]; exact fun _ z => nomatch z) | (rw [h.2.1]; exact fun _ z => nomatch z)
  | .dict _, .sh, v, f, h => by simp only [Ow] at h; rw [h.1]; exact fun _ z => nomatch z
  | .dict _, .raw, v, f, h => by simp only [Ow] at h; rw [h.1]; exact fun _ z => nomatch z
  | .dict kvs, .own p, v, f, h => by
    simp only [Ow] at h
    obtain ⟨a, xs, g, rfl, h1, rfl, h2⟩ := h
    intro b hb
    rcases List.mem_cons.mp hb with rfl | hb
    · exact h1.mu
    · exact OwK.lst kvs p xs g h2.1 b hb
theorem OwK.lst : ∀ (kvs : List (D × D)) (p : Perm) (xs : List V) (f : List Addr), OwK K F H kvs p xs f → ∀ a ∈ f, Mu H a
  | [], p, xs, f, h => by simp only [OwK] at h; rw [h.2]; exact fun _ z => nomatch z
  | (_, d) :: kvs, p, xs, f, h => by
    simp only [OwK] at h
    obtain ⟨x, xr, f1, f2, rfl, rfl, h1, h2⟩ := h
    intro b hb
    rcases List.mem_append.mp hb with hb | hb
    · exact Ow.lst d p x f1 h1 b hb
    · exact OwK.lst kvs p xr f2 h2 b hb
theorem OwA.lst : ∀ (ds : List D) (p : Perm) (xs : List V) (f : List Addr), OwA K F H ds p xs f → ∀ a ∈ f, Mu H a
  | [], p, xs, f, h => by rw [OwA_nil] at h; rw [h.2]; exact fun _ z => nomatch z
  | d :: ds, p, xs, f, h => by
    rw [OwA_cons] at h
    obtain ⟨x, xr, f1, f2, rfl, rfl, h1, h2⟩ := h
    intro b hb
    rcases List.mem_append.mp hb with hb | hb
    · exact Ow.lst d p x f1 h1 b hb
    · exact OwA.lst ds p xr f2 h2 b hb
end
mutual
/-- given away: what was owned is shared -/
theorem Ow.give (G : Addr → Prop) (hF : ∀ a, F a → G a) : ∀ (d : D) (p : Perm) (v : V) (f : List Addr), (∀ a ∈ f, G a) → p.cl1 = true → Ow K F H d p v f → Dv K G H d v
  | .list ds, .own p, v, f, n, h3, h => by
    rw [Ow_list] at h
    obtain ⟨a, xs, g, rfl, h1, rfl, h2, _⟩ := h
    simp only [Dv]
    exact ⟨a, xs, rfl, n a (by simp), h1, OwA.give G hF ds p xs g (fun b hb => n b (by simp [hb])) h3 h2⟩
  | .list ds, .sh, v, f, n, _, h => by
    rw [Ow_sh] at h
    exact h.2.mono hF
  | .list ds, .raw, v, f, n, q, h => nomatch q
  | .none, p, v, f, n, q, h => by cases p <;> (simp only [Ow] at h) <;> first | exact h.2.mono hF | exact h.2.2.mono hF | exact nomatch q
  | .bool _, p, v, f, n, q, h => by cases p <;> (simp only [Ow] at h) <;> first | exact h.2.mono hF | exact h.2.2.mono hF | exact nomatch q
  | .int _, p, v, f, n, q, h => by cases p <;> (simp only [Ow] at h) <;> first | exact h.2.mono hF | exact h.2.2.mono hF | exact nomatch q
  | .str _, p, v, f, n, q, h => by cases p <;> (simp only [Ow] at h) <;> first | exact h.2.mono hF | exact h.2.2.mono hF | exact nomatch q
  | .tuple _, p, v, f, n, q, h => by cases p <;> (simp only [Ow] at h) <;> first | exact h.2.mono hF | exact h.2.1.mono hF | exact nomatch q
  | .dict _, .sh, v, f, n, q, h => by simp only [Ow] at h; exact h.2.mono hF
  | .dict _, .raw, v, f, n, q, h => nomatch q
  | .dict kvs, .own p, v, f, n, h3, h => by
    simp only [Ow] at h
    obtain ⟨a, xs, g, rfl, h1, rfl, h2, _⟩ := h
    simp only [Dv]
    exact .inr ⟨a, xs, rfl, n a (by simp), h1, OwK.give G hF kvs p xs g (fun b hb => n b (by simp [hb])) h3 h2⟩
theorem OwK.give (G : Addr → Prop) (hF : ∀ a, F a → G a) : ∀ (kvs : List (D × D)) (p : Perm) (xs : List V) (f : List Addr), (∀ a ∈ f, G a) → p.cl1 = true → OwK K F H kvs p xs f → DvK K G H kvs xs
  | [], p, xs, f, n, _, h => by simp only [OwK] at h; simp only [DvK]; exact h.1
  | (_, d) :: kvs, p, xs, f, n, q, h => by
    simp only [OwK] at h
    obtain ⟨x, xr, f1, f2, rfl, rfl, h1, h2⟩ := h
    simp only [DvK]
    exact ⟨x, xr, rfl, Ow.give G hF d p x f1 (fun a ha => n a (by simp [ha])) q h1, OwK.give G hF kvs p xr f2 (fun a ha => n a (by simp [ha])) q h2⟩
theorem OwA.give (G : Addr → Prop) (hF : ∀ a, F a → G a) : ∀ (ds : List D) (p : Perm) (xs : List V) (f : List Addr), (∀ a ∈ f, G a) → p.cl1 = true → OwA K F H ds p xs f → DvA K G H ds xs
  | [], p, xs, f, n, _, h => by rw [OwA_nil] at h; rw [DvA_nil]; exact h.1
  | d :: ds, p, xs, f, n, q, h => by
    rw [OwA_cons] at h
    obtain ⟨x, xr, f1, f2, rfl, rfl, h1, h2⟩ := h
    exact DvA_cons.mpr ⟨x, xr, rfl, Ow.give G hF d p x f1 (fun a ha => n a (by simp [ha])) q h1, OwA.give G hF ds p xr f2 (fun a ha => n a (by simp [ha])) q h2⟩
end
theorem RawD.mono {G : Addr → Prop} (hF : ∀ a, F a → G a) {d : D} {v : V} (h : RawD K F H d v) : RawD K G H d v := by
  cases d with
  | list ds =>
    obtain ⟨a, xs, rfl, h1, h2⟩ := h
    exact ⟨a, xs, rfl, h1, DvA.imp (fun a xs hf r => ⟨hF a hf, r⟩) (fun _ _ q => q) (fun _ _ _ q => q) ds xs h2⟩
  | _ => exact ⟨h.1, Dv_scal h.1 h.2⟩
/-- .. of any kind, as it is handed on -/
theorem Ow.givez (G : Addr → Prop) (hF : ∀ a, F a → G a) {d : D} {p : Perm} {v : V} {f : List Addr} (hc : p.clean = true) (n : ∀ a ∈ f, G a) (h : Ow K F H d p v f) : Ow K G H d p.fz v [] := by
  cases p with
  | sh => exact Ow_sh.mpr ⟨rfl, Ow.give G hF _ _ _ _ n rfl h⟩
  | own p =>
    have e : (Perm.own p).fz = .sh := if_pos hc
    rw [e]
    exact Ow_sh.mpr ⟨rfl, Ow.give G hF _ (.own p) _ _ n hc h⟩
  | raw =>
    obtain ⟨rfl, h2⟩ := Ow_raw.mp h
    exact Ow_raw.mpr ⟨rfl, RawD.mono hF h2⟩

/-! ### the names' values -/
def SlotOk (K : PySem.W.Frag) (F : Addr → Prop) (H : Hp) : Option V → Option Ety → List Addr → Prop
  | _, none, f => f = []
  | o, some e, f => ∃ v, o = some v ∧ Ow K F H e.d e.p v f
def Slots (K : PySem.W.Frag) (F : Addr → Prop) (H : Hp) : L2.St → Rho → List Addr → Prop
  | [], [], f => f = []
  | o :: σ, e :: ρ, f => ∃ f1 f2, f = f1 ++ f2 ∧ SlotOk K F H o e f1 ∧ Slots K F H σ ρ f2
  | _, _, _ => False
theorem Slots.length : ∀ {σ : L2.St} {ρ : Rho} {f : List Addr}, Slots K F H σ ρ f → σ.length = ρ.length
  | [], [], _, _ => rfl
  | o :: σ, e :: ρ, f, h => by obtain ⟨_, _, _, _, h⟩ := h; simp [Slots.length h]
  | [], _ :: _, _, h => h.elim
  | _ :: _, [], _, h => h.elim
theorem SlotOk.lst {o : Option V} {e : Option Ety} {f : List Addr} (h : SlotOk K F H o e f) : ∀ a ∈ f, Mu H a := by
  cases e with
  | none => rw [show f = [] from h]; exact fun _ z => nomatch z
  | some e => obtain ⟨v, _, h⟩ := h; exact Ow.lst _ _ _ _ h
theorem Slots.lst : ∀ {σ : L2.St} {ρ : Rho} {f : List Addr}, Slots K F H σ ρ f → ∀ a ∈ f, Mu H a
  | [], [], f, h => by rw [show f = [] from h]; exact fun _ z => nomatch z
  | o :: σ, e :: ρ, f, h => by
    obtain ⟨f1, f2, rfl, h1, h2⟩ := h
    intro b hb
    rcases List.mem_append.mp hb with hb | hb
    · exact h1.lst b hb
    · exact Slots.lst h2 b hb
  | [], _ :: _, _, h => h.elim
  | _ :: _, [], _, h => h.elim
theorem SlotOk.chg {A : List Addr} (c : Chg F H F' H' A) (off : ∀ a ∈ A, ¬ F a) (lst : ∀ a ∈ A, Mu H a) {o : Option V} {e : Option Ety} {f : List Addr} (n : ∀ a ∈ f, a ∉ A) (h : SlotOk K F H o e f) : SlotOk K F' H' o e f := by
  cases e with
  | none => exact h
  | some e => obtain ⟨v, r, h⟩ := h; exact ⟨v, r, Ow.chg c off lst _ _ _ _ n h⟩
theorem Slots.chg {A : List Addr} (c : Chg F H F' H' A) (off : ∀ a ∈ A, ¬ F a) (lst : ∀ a ∈ A, Mu H a) : ∀ {σ : L2.St} {ρ : Rho} {f : List Addr}, (∀ a ∈ f, a ∉ A) → Slots K F H σ ρ f → Slots K F' H' σ ρ f
  | [], [], f, _, h => h
  | o :: σ, e :: ρ, f, n, h => by
    obtain ⟨f1, f2, rfl, h1, h2⟩ := h
    exact ⟨f1, f2, rfl, h1.chg c off lst fun a ha => n a (by simp [ha]), Slots.chg c off lst (fun a ha => n a (by simp [ha])) h2⟩
  | [], _ :: _, _, _, h => h.elim
  | _ :: _, [], _, _, h => h.elim
/-- one name taken out -/
theorem Slots.out : ∀ {σ : L2.St} {ρ : Rho} {f : List Addr} {i : Nat} {e : Option Ety}, Slots K F H σ ρ f → ρ[i]? = some e →
    ∃ o l f1 r, σ[i]? = some o ∧ f = l ++ (f1 ++ r) ∧ SlotOk K F H o e f1 ∧ Slots K F H σ (ρ.set i none) (l ++ r)
  | [], [], f, i, e, h, q => by simp at q
  | o :: σ, e' :: ρ, f, 0, e, h, q => by
    obtain ⟨f1, f2, rfl, h1, h2⟩ := h
    simp at q; subst q
    exact ⟨o, [], f1, f2, rfl, rfl, h1, [], f2, rfl, rfl, h2⟩
  | o :: σ, e' :: ρ, f, i + 1, e, h, q => by
    obtain ⟨f1, f2, rfl, h1, h2⟩ := h
    obtain ⟨o', l, g, r, e1, rfl, e2, e3⟩ := Slots.out (i := i) h2 (by simpa using q)
    exact ⟨o', f1 ++ l, g, r, by simpa using e1, by simp, e2, f1, l ++ r, by simp, h1, e3⟩
  | [], _ :: _, _, _, _, h, _ => h.elim
  | _ :: _, [], _, _, _, h, _ => h.elim
/-- one name put in -/
theorem Slots.inn : ∀ {σ : L2.St} {ρ : Rho} {f : List Addr} {i : Nat} {o : Option V} {e : Option Ety} {g : List Addr}, Slots K F H σ ρ f → ρ[i]? = some none → SlotOk K F H o e g →
    ∃ l r, f = l ++ r ∧ Slots K F H (σ.set i o) (ρ.set i e) (l ++ (g ++ r))
  | [], [], f, i, o, e, g, h, q, _ => by simp at q
  | o :: σ, e' :: ρ, f, 0, o', e, g, h, q, s => by
    obtain ⟨f1, f2, rfl, h1, h2⟩ := h
    simp at q; subst q
    have z : f1 = [] := h1
    subst z
    exact ⟨[], f2, rfl, g, f2, rfl, s, h2⟩
  | o :: σ, e' :: ρ, f, i + 1, o', e, g, h, q, s => by
    obtain ⟨f1, f2, rfl, h1, h2⟩ := h
    obtain ⟨l, r, rfl, e3⟩ := Slots.inn (i := i) h2 (by simpa using q) s
    exact ⟨f1 ++ l, r, by simp, f1, l ++ (g ++ r), by simp, h1, e3⟩
  | [], _ :: _, _, _, _, _, _, h, _, _ => h.elim
  | _ :: _, [], _, _, _, _, _, h, _, _ => h.elim

structure Rep (K : PySem.W.Frag) (F : Addr → Prop) (H : Hp) (σ : L2.St) (ρ : Rho) (f : List Addr) : Prop where
  sl : Slots K F H σ ρ f
  nd : f.Nodup
  off : ∀ a ∈ f, ¬ F a
  there : ∀ a, F a → H a ≠ none
theorem Rep.lst {σ : L2.St} {ρ : Rho} {f : List Addr} (r : Rep K F H σ ρ f) : ∀ a ∈ f, Mu H a := r.sl.lst
theorem Rep.ne {σ : L2.St} {ρ : Rho} {f : List Addr} (r : Rep K F H σ ρ f) {a : Addr} (h : a ∈ f) : H a ≠ none := by
  exact (r.lst a h).ne
theorem Chg.there {A : List Addr} (c : Chg F H F' H' A) (t : ∀ a, F a → H a ≠ none) (n : ∀ a, F' a → ¬ F a → H' a ≠ none) : ∀ a, F' a → H' a ≠ none := fun a h => by
  by_cases q : F a
  · exact c.dom a (t a q)
  · exact n a h q
/-- the same names behind a change elsewhere (new things only) -/
theorem Rep.new {σ : L2.St} {ρ : Rho} {f : List Addr} (r : Rep K F H σ ρ f) (c : Chg F H F' H' []) (t : ∀ a, F' a → H' a ≠ none) : Rep K F' H' σ ρ f :=
  ⟨r.sl.chg c (by simp) (by simp) (by simp), r.nd, fun a ha z => by
    rcases c.new a z with q | q | q
    · exact r.off a ha q
    · simp at q
    · exact r.ne ha q, t⟩
theorem at_some {ρ : Rho} {i : Nat} {e : Ety} (h : ρ.at i = some e) : ρ[i]? = some (some e) := by
  unfold Rho.at at h
  cases q : ρ[i]? with
  | none => rw [q] at h; cases h
  | some o => rw [q] at h; have : o = some e := h; rw [this]
/-- a name's value is looked at -/
theorem Rep.get {σ : L2.St} {ρ : Rho} {f : List Addr} {i : Nat} {e : Ety} (r : Rep K F H σ ρ f) (h : ρ.at i = some e) : ∃ v g, σ[i]? = some (some v) ∧ Ow K F H e.d e.p v g := by
  obtain ⟨o, l, f1, r', h1, _, h2, _⟩ := r.sl.out (at_some h)
  obtain ⟨v, rfl, h2⟩ := h2
  exact ⟨v, f1, h1, h2⟩
/-- a name is taken out: its value and what it owns -/
theorem Rep.out {σ : L2.St} {ρ : Rho} {f : List Addr} {i : Nat} {e : Option Ety} (r : Rep K F H σ ρ f) (h : ρ[i]? = some e) :
    ∃ o g f', σ[i]? = some o ∧ f.Perm (g ++ f') ∧ SlotOk K F H o e g ∧ Rep K F H σ (ρ.set i none) f' := by
  obtain ⟨o, l, f1, r', h1, rfl, h2, h3⟩ := r.sl.out h
  have p : (l ++ (f1 ++ r')).Perm (f1 ++ (l ++ r')) := by
    rw [← List.append_assoc, ← List.append_assoc]
    exact List.Perm.append_right _ List.perm_append_comm
  exact ⟨o, f1, l ++ r', h1, p, h2, h3, (List.nodup_append.mp (p.nodup_iff.mp r.nd)).2.1, fun a ha => r.off a (p.mem_iff.mpr (List.mem_append_right _ ha)), r.there⟩
/-- a name is put in -/
theorem Rep.inn {σ : L2.St} {ρ : Rho} {f : List Addr} {i : Nat} {o : Option V} {e : Option Ety} {g : List Addr} (r : Rep K F H σ ρ f) (h : ρ[i]? = some none) (s : SlotOk K F H o e g) (nd : (g ++ f).Nodup) (off : ∀ a ∈ g, ¬ F a) :
    ∃ f', f'.Perm (g ++ f) ∧ Rep K F H (σ.set i o) (ρ.set i e) f' := by
  obtain ⟨l, r', rfl, h3⟩ := r.sl.inn h s
  have p : (l ++ (g ++ r')).Perm (g ++ (l ++ r')) := by
    rw [← List.append_assoc, ← List.append_assoc]
    exact List.Perm.append_right _ List.perm_append_comm
  refine ⟨_, p, h3, p.nodup_iff.mpr nd, fun a ha => ?_, r.there⟩
  rcases List.mem_append.mp (p.mem_iff.mp ha) with q | q
  · exact off a q
  · exact r.off a q
theorem set_idem {α : Type} (l : List α) (i : Nat) (a b : α) : (l.set i a).set i b = l.set i b := List.set_set a
/-- a name is stored -/
theorem Rep.put {σ : L2.St} {ρ : Rho} {f : List Addr} {i : Nat} {v : V} {e : Ety} {g : List Addr} (r : Rep K F H σ ρ f) (hi : i < ρ.length) (s : Ow K F H e.d e.p v g) (nd : (g ++ f).Nodup) (off : ∀ a ∈ g, ¬ F a) :
    ∃ f', (∀ a ∈ f', a ∈ g ++ f) ∧ Rep K F H (σ.set i (some v)) (ρ.set i (some e)) f' := by
  obtain ⟨o, g0, f0, _, p, _, r0⟩ := r.out (i := i) (e := ρ[i]) (List.getElem?_eq_getElem hi)
  have nd0 : (g ++ f0).Nodup := by
    refine List.nodup_append.mpr ⟨(List.nodup_append.mp nd).1, r0.nd, fun a ha b hb => ?_⟩
    exact (List.nodup_append.mp nd).2.2 a ha b (p.mem_iff.mpr (List.mem_append_right _ hb))
  obtain ⟨f', p', r'⟩ := r0.inn (i := i) (o := some v) (e := some e) (g := g) (by simp [hi]) ⟨v, rfl, s⟩ nd0 off
  rw [set_idem] at r'
  refine ⟨f', fun a ha => ?_, r'⟩
  rcases List.mem_append.mp (p'.mem_iff.mp ha) with q | q
  · exact List.mem_append_left _ q
  · exact List.mem_append_right _ (p.mem_iff.mpr (List.mem_append_right _ q))
/-- a name is forgotten -/
theorem Rep.drop {σ : L2.St} {ρ : Rho} {f : List Addr} {i : Nat} (r : Rep K F H σ ρ f) : ∃ f', (∀ a ∈ f', a ∈ f) ∧ Rep K F H σ (ρ.set i none) f' := by
  by_cases hi : i < ρ.length
  · obtain ⟨o, g0, f0, _, p, _, r0⟩ := r.out (i := i) (e := ρ[i]) (List.getElem?_eq_getElem hi)
    exact ⟨f0, fun a ha => p.mem_iff.mpr (List.mem_append_right _ ha), r0⟩
  · rw [List.set_eq_of_length_le (by omega)]
    exact ⟨f, fun _ h => h, r⟩
/-- .. whatever it is in σ then -/
theorem Slots.any : ∀ {σ : L2.St} {ρ : Rho} {f : List Addr} {i : Nat} {o : Option V}, Slots K F H σ ρ f → ρ[i]? = some none → Slots K F H (σ.set i o) ρ f
  | [], [], f, i, o, h, q => by simp at q
  | o :: σ, e' :: ρ, f, 0, o', h, q => by
    obtain ⟨f1, f2, rfl, h1, h2⟩ := h
    simp at q; subst q
    exact ⟨f1, f2, rfl, h1, h2⟩
  | o :: σ, e' :: ρ, f, i + 1, o', h, q => by
    obtain ⟨f1, f2, rfl, h1, h2⟩ := h
    exact ⟨f1, f2, rfl, h1, Slots.any (i := i) h2 (by simpa using q)⟩
  | [], _ :: _, _, _, _, h, _ => h.elim
  | _ :: _, [], _, _, _, h, _ => h.elim
end
end MS
namespace MS
open PySem PySem.Spec PyProof.Rows L2
section
variable {K : PySem.W.Frag} {F F' F1 F2 : Addr → Prop} {H H' H1 H2 : Hp} {σ : L2.St}

/-! ### readings of one datum -/
theorem Ow.tup {ds : List D} {p : Perm} {v : V} {g : List Addr} (h : Ow K F H (.tuple ds) p v g) : ∃ a xs, v = .ref a ∧ SqT K H a xs ∧ DvA K F H ds xs := by
  cases p with
  | sh => obtain ⟨_, h⟩ := Ow_sh.mp h; simpa only [Dv] using h
  | own p => simp only [Ow] at h; simpa only [Dv] using h.2.1
  | raw => exact nomatch (Ow_raw.mp h).2.1
theorem Dv.list {ds : List D} {v : V} (h : Dv K F H (.list ds) v) : ∃ a xs, v = .ref a ∧ SqL K H a xs ∧ DvA K F H ds xs := by
  simp only [Dv] at h
  obtain ⟨a, xs, rfl, _, h1, h2⟩ := h
  exact ⟨a, xs, rfl, .of h1, h2⟩
theorem Ow.list {ds : List D} {p : Perm} {v : V} {g : List Addr} (h : Ow K F H (.list ds) p v g) : ∃ a xs g', v = .ref a ∧ SqL K H a xs ∧ ((p.el = true ∧ DvA K F H ds xs) ∨ ∃ q, p = .own q ∧ OwA K F H ds q xs g') := by
  cases p with
  | sh =>
    obtain ⟨_, h⟩ := Ow_sh.mp h
    obtain ⟨a, xs, rfl, h1, h2⟩ := h.list
    exact ⟨a, xs, [], rfl, h1, .inl ⟨rfl, h2⟩⟩
  | own q =>
    obtain ⟨a, xs, g', rfl, h1, rfl, h2, _⟩ := Ow_list.mp h
    exact ⟨a, xs, g', rfl, .of h1, .inr ⟨q, rfl, h2⟩⟩
  | raw =>
    obtain ⟨rfl, a, xs, rfl, h1, h2⟩ := Ow_raw.mp h
    refine ⟨a, xs, [], rfl, ?_, .inl ⟨rfl, h2⟩⟩
    rcases h1 with ⟨o, h1⟩ | h1
    · exact .inl (.inr ⟨o, h1⟩)
    · exact .inr h1
theorem Ow.listEl {ds : List D} {p : Perm} {v : V} {g : List Addr} (h : Ow K F H (.list ds) p v g) (e : p.el = true) : ∃ a xs, v = .ref a ∧ SqL K H a xs ∧ DvA K F H ds xs := by
  obtain ⟨a, xs, g', rfl, h1, h2⟩ := h.list
  refine ⟨a, xs, rfl, h1, ?_⟩
  rcases h2 with ⟨_, h2⟩ | ⟨q, rfl, h2⟩
  · exact h2
  · cases q with
    | sh => exact (OwA_sh.mp h2).2
    | own _ => cases e
    | raw => cases e
/-- a list of the call's own -/
theorem Ow.listTr {ds : List D} {p : Perm} {v : V} {g : List Addr} (h : Ow K F H (.list ds) p v g) (e : p.tr = true) : ∃ a xs, v = .ref a ∧ H a = some (.lst xs) ∧ DvA K F H ds xs := by
  cases p with
  | sh =>
    obtain ⟨_, h⟩ := Ow_sh.mp h
    simp only [Dv] at h
    obtain ⟨a, xs, rfl, _, h1, h2⟩ := h
    exact ⟨a, xs, rfl, h1, h2⟩
  | own q =>
    obtain ⟨a, xs, g', rfl, h1, rfl, h2, _⟩ := Ow_list.mp h
    cases q with
    | sh => exact ⟨a, xs, rfl, h1, (OwA_sh.mp h2).2⟩
    | own _ => cases e
    | raw => cases e
  | raw => cases e
theorem DvA.of_get : ∀ {ds : List D} {xs : List V}, DvA K F H ds xs → ∀ {i : Nat} {d : D}, ds[i]? = some d → ∃ x, xs[i]? = some x ∧ Dv K F H d x
  | [], xs, h, i, d, e => by simp at e
  | d :: ds, xs, h, 0, d', e => by
    obtain ⟨x, xr, rfl, h1, h2⟩ := DvA_cons.mp h
    simp at e; subst e
    exact ⟨x, rfl, h1⟩
  | d :: ds, xs, h, i + 1, d', e => by
    obtain ⟨x, xr, rfl, h1, h2⟩ := DvA_cons.mp h
    obtain ⟨y, h3, h4⟩ := DvA.of_get h2 (i := i) (by simpa using e)
    exact ⟨y, by simpa using h3, h4⟩
theorem OwA.of_get : ∀ {ds : List D} {p : Perm} {xs : List V} {g : List Addr}, OwA K F H ds p xs g → ∀ {i : Nat} {d : D}, ds[i]? = some d → ∃ x g', xs[i]? = some x ∧ Ow K F H d p x g'
  | [], p, xs, g, h, i, d, e => by simp at e
  | d :: ds, p, xs, g, h, 0, d', e => by
    obtain ⟨x, xr, f1, f2, rfl, rfl, h1, h2⟩ := OwA_cons.mp h
    simp at e; subst e
    exact ⟨x, f1, rfl, h1⟩
  | d :: ds, p, xs, g, h, i + 1, d', e => by
    obtain ⟨x, xr, f1, f2, rfl, rfl, h1, h2⟩ := OwA_cons.mp h
    obtain ⟨y, g', h3, h4⟩ := OwA.of_get h2 (i := i) (by simpa using e)
    exact ⟨y, g', by simpa using h3, h4⟩
theorem Ow.scal {d : D} {p : Perm} {v : V} {g : List Addr} (h : Ow K F H d p v g) (s : isScal d = true) : Dv K F H d v := by
  cases p with
  | sh => exact (Ow_sh.mp h).2
  | own p => exact ((Ow_own_scal s).mp h).2
  | raw =>
    have q := (Ow_raw.mp h).2
    cases d <;> first | (simp [isScal] at s; done) | exact q.2
theorem Ow.int {i : Int} {p : Perm} {v : V} {g : List Addr} (h : Ow K F H (.int i) p v g) : v = .int i := by
  have := h.scal rfl
  simpa only [Dv] using this
theorem Ow.bl {i : Bool} {p : Perm} {v : V} {g : List Addr} (h : Ow K F H (.bool i) p v g) : v = .bl i := by
  have := h.scal rfl
  simpa only [Dv] using this
theorem dv_int {i : Int} : Dv K F H (.int i) (.int i) := by simp only [Dv]
theorem dv_bl {i : Bool} : Dv K F H (.bool i) (.bl i) := by simp only [Dv]
theorem dv_non : Dv K F H .none .non := by simp only [Dv]
theorem dv_str {x : Str} : Dv K F H (.str x) (.str x) := by simp only [Dv]
theorem dvA_append : ∀ {ds es : List D} {xs ys : List V}, DvA K F H ds xs → DvA K F H es ys → DvA K F H (ds ++ es) (xs ++ ys)
  | [], es, xs, ys, h, h' => by rw [DvA_nil] at h; subst h; exact h'
  | d :: ds, es, xs, ys, h, h' => by
    obtain ⟨x, xr, rfl, h1, h2⟩ := DvA_cons.mp h
    exact DvA_cons.mpr ⟨x, xr ++ ys, rfl, h1, dvA_append h2 h'⟩
theorem DvA.drop : ∀ (n : Nat) {ds : List D} {xs : List V}, DvA K F H ds xs → DvA K F H (ds.drop n) (xs.drop n)
  | 0, _, _, h => h
  | n + 1, [], xs, h => by rw [DvA_nil] at h; subst h; simp [DvA_nil]
  | n + 1, d :: ds, xs, h => by
    obtain ⟨x, xr, rfl, h1, h2⟩ := DvA_cons.mp h
    exact DvA.drop n h2
theorem DvA.take : ∀ (n : Nat) {ds : List D} {xs : List V}, DvA K F H ds xs → DvA K F H (ds.take n) (xs.take n)
  | 0, _, _, h => by simp [DvA_nil]
  | n + 1, [], xs, h => by rw [DvA_nil] at h; subst h; simp [DvA_nil]
  | n + 1, d :: ds, xs, h => by
    obtain ⟨x, xr, rfl, h1, h2⟩ := DvA_cons.mp h
    exact DvA_cons.mpr ⟨x, xr.take n, rfl, h1, DvA.take n h2⟩
theorem DvA.reverse : ∀ {ds : List D} {xs : List V}, DvA K F H ds xs → DvA K F H ds.reverse xs.reverse
  | [], xs, h => by rw [DvA_nil] at h; subst h; simp [DvA_nil]
  | d :: ds, xs, h => by
    obtain ⟨x, xr, rfl, h1, h2⟩ := DvA_cons.mp h
    rw [List.reverse_cons, List.reverse_cons]
    exact dvA_append (DvA.reverse h2) (DvA_cons.mpr ⟨x, [], rfl, h1, DvA_nil.mpr rfl⟩)
theorem DvA.set : ∀ (n : Nat) {ds : List D} {xs : List V} {d : D} {x : V}, DvA K F H ds xs → Dv K F H d x → DvA K F H (ds.set n d) (xs.set n x)
  | _, [], xs, _, _, h, _ => by rw [DvA_nil] at h; subst h; simp [DvA_nil]
  | 0, d :: ds, xs, _, _, h, h' => by
    obtain ⟨x, xr, rfl, h1, h2⟩ := DvA_cons.mp h
    exact DvA_cons.mpr ⟨_, xr, rfl, h', h2⟩
  | n + 1, d :: ds, xs, _, _, h, h' => by
    obtain ⟨x, xr, rfl, h1, h2⟩ := DvA_cons.mp h
    exact DvA_cons.mpr ⟨x, _, rfl, h1, DvA.set n h2 h'⟩
theorem DvA.eraseIdx : ∀ (n : Nat) {ds : List D} {xs : List V}, DvA K F H ds xs → DvA K F H (ds.eraseIdx n) (xs.eraseIdx n)
  | _, [], xs, h => by rw [DvA_nil] at h; subst h; simp [DvA_nil]
  | 0, d :: ds, xs, h => by
    obtain ⟨x, xr, rfl, h1, h2⟩ := DvA_cons.mp h
    exact h2
  | n + 1, d :: ds, xs, h => by
    obtain ⟨x, xr, rfl, h1, h2⟩ := DvA_cons.mp h
    exact DvA_cons.mpr ⟨x, _, rfl, h1, DvA.eraseIdx n h2⟩
theorem DvA.dropLast {ds : List D} {xs : List V} (h : DvA K F H ds xs) : DvA K F H ds.dropLast xs.dropLast := by
  rw [List.dropLast_eq_take, List.dropLast_eq_take, h.length]
  exact h.take _
theorem DvA.rep {ds : List D} {xs : List V} (h : DvA K F H ds xs) : ∀ k : Nat, DvA K F H (List.replicate k ds).flatten (List.replicate k xs).flatten
  | 0 => by simp [DvA_nil]
  | k + 1 => by
    rw [List.replicate_succ, List.replicate_succ, List.flatten_cons, List.flatten_cons]
    exact dvA_append h (DvA.rep h k)
theorem dvA_ints : ∀ (ns : List Int), DvA K F H (intsD ns) (ns.map V.int)
  | [] => DvA_nil.mpr rfl
  | n :: ns => DvA_cons.mpr ⟨_, _, rfl, dv_int, dvA_ints ns⟩
theorem DvA.ints : ∀ {ns : List Int} {xs : List V}, DvA K F H (intsD ns) xs → xs = ns.map V.int
  | [], xs, h => DvA_nil.mp h
  | n :: ns, xs, h => by
    obtain ⟨x, xr, rfl, h1, h2⟩ := DvA_cons.mp h
    have e : x = .int n := by simpa only [Dv] using h1
    rw [e, DvA.ints h2]; rfl
theorem OwA.ints : ∀ {ns : List Int} {p : Perm} {xs : List V} {g : List Addr}, OwA K F H (intsD ns) p xs g → xs = ns.map V.int
  | [], p, xs, g, h => (OwA_nil.mp h).1
  | n :: ns, p, xs, g, h => by
    obtain ⟨x, xr, f1, f2, rfl, rfl, h1, h2⟩ := OwA_cons.mp h
    have e : x = .int n := h1.int
    rw [e, OwA.ints h2]; rfl
theorem Ow.lints {ns : List Int} {p : Perm} {v : V} {g : List Addr} (h : Ow K F H (.list (intsD ns)) p v g) : ∃ a, v = .ref a ∧ SqL K H a (ns.map V.int) := by
  obtain ⟨a, xs, g', rfl, h1, h2⟩ := h.list
  refine ⟨a, rfl, ?_⟩
  rcases h2 with ⟨_, h2⟩ | ⟨q, _, h2⟩
  · rw [← h2.ints]; exact h1
  · rw [← h2.ints]; exact h1
theorem Ow.tints {ns : List Int} {p : Perm} {v : V} {g : List Addr} (h : Ow K F H (.tuple (intsD ns)) p v g) : ∃ a, v = .ref a ∧ SqT K H a (ns.map V.int) := by
  obtain ⟨a, xs, rfl, h1, h2⟩ := h.tup
  exact ⟨a, rfl, by rw [← h2.ints]; exact h1⟩
theorem OwA.bls : ∀ {bs : List Bool} {p : Perm} {xs : List V} {g : List Addr}, OwA K F H (bs.map .bool) p xs g → xs = bs.map V.bl
  | [], p, xs, g, h => (OwA_nil.mp h).1
  | n :: ns, p, xs, g, h => by
    obtain ⟨x, xr, f1, f2, rfl, rfl, h1, h2⟩ := OwA_cons.mp h
    rw [h1.bl, OwA.bls h2]; rfl
theorem Ow.lbls {bs : List Bool} {p : Perm} {v : V} {g : List Addr} (h : Ow K F H (.list (bs.map .bool)) p v g) : ∃ a, v = .ref a ∧ SqL K H a (bs.map V.bl) := by
  obtain ⟨a, xs, g', rfl, h1, h2⟩ := h.list
  refine ⟨a, rfl, ?_⟩
  rcases h2 with ⟨_, h2⟩ | ⟨q, _, h2⟩
  · rw [← (OwA_sh.mpr ⟨rfl, h2⟩).bls]; exact h1
  · rw [← h2.bls]; exact h1

/-! ### arguments -/
def AvOk (K : PySem.W.Frag) (F : Addr → Prop) (H : Hp) (σ : L2.St) : AV → V → List Addr → Prop
  | .val e, v, g => Ow K F H e.d e.p v g
  | .pk i, v, g => g = [] ∧ σ[i]? = some (some v)
def AvA (K : PySem.W.Frag) (F : Addr → Prop) (H : Hp) (σ : L2.St) : List AV → List V → List Addr → Prop
  | [], xs, g => xs = [] ∧ g = []
  | a :: as, xs, g => ∃ x xr g1 g2, xs = x :: xr ∧ g = g1 ++ g2 ∧ AvOk K F H σ a x g1 ∧ AvA K F H σ as xr g2
theorem AvOk.lst {a : AV} {v : V} {g : List Addr} (h : AvOk K F H σ a v g) : ∀ b ∈ g, Mu H b := by
  cases a with
  | val e => exact Ow.lst _ _ _ _ h
  | pk i => rw [h.1]; exact fun _ z => nomatch z
theorem AvA.lst : ∀ {as : List AV} {vs : List V} {g : List Addr}, AvA K F H σ as vs g → ∀ b ∈ g, Mu H b
  | [], vs, g, h => by rw [h.2]; exact fun _ z => nomatch z
  | a :: as, vs, g, h => by
    obtain ⟨x, xr, g1, g2, rfl, rfl, h1, h2⟩ := h
    intro b hb
    rcases List.mem_append.mp hb with hb | hb
    · exact h1.lst b hb
    · exact AvA.lst h2 b hb
theorem AvOk.chg {A : List Addr} (c : Chg F H F' H' A) (off : ∀ a ∈ A, ¬ F a) (lst : ∀ a ∈ A, Mu H a) {a : AV} {v : V} {g : List Addr} (n : ∀ a ∈ g, a ∉ A) (h : AvOk K F H σ a v g) : AvOk K F' H' σ a v g := by
  cases a with
  | val e => exact Ow.chg c off lst _ _ _ _ n h
  | pk i => exact h
theorem AvA.chg {A : List Addr} (c : Chg F H F' H' A) (off : ∀ a ∈ A, ¬ F a) (lst : ∀ a ∈ A, Mu H a) : ∀ {as : List AV} {vs : List V} {g : List Addr}, (∀ a ∈ g, a ∉ A) → AvA K F H σ as vs g → AvA K F' H' σ as vs g
  | [], vs, g, n, h => h
  | a :: as, vs, g, n, h => by
    obtain ⟨x, xr, g1, g2, rfl, rfl, h1, h2⟩ := h
    exact ⟨x, xr, g1, g2, rfl, rfl, h1.chg c off lst fun a ha => n a (by simp [ha]), AvA.chg c off lst (fun a ha => n a (by simp [ha])) h2⟩
/-- the arguments' data, at the end -/
def EtA (K : PySem.W.Frag) (F : Addr → Prop) (H : Hp) : List Ety → List V → Prop
  | [], xs => xs = []
  | e :: es, xs => ∃ x xr, xs = x :: xr ∧ (∃ g, Ow K F H e.d e.p x g) ∧ EtA K F H es xr
theorem looks_ok {ρ : Rho} {f : List Addr} (r : Rep K F H σ ρ f) : ∀ {as : List AV} {vs : List V} {g : List Addr} {es : List Ety}, AvA K F H σ as vs g → looks ρ as = some es → EtA K F H es vs
  | [], vs, g, es, h, e => by
    simp [looks] at e; subst e
    exact h.1
  | a :: as, vs, g, es, h, e => by
    obtain ⟨x, xr, g1, g2, rfl, rfl, h1, h2⟩ := h
    unfold looks at e
    cases e1 : a.look ρ with
    | none => rw [e1] at e; cases e
    | some y =>
      cases e2 : looks ρ as with
      | none => rw [e1, e2] at e; cases e
      | some ys =>
        rw [e1, e2] at e
        have e : y :: ys = es := Option.some.inj e
        subst e
        refine ⟨x, xr, rfl, ?_, looks_ok r h2 e2⟩
        cases a with
        | val z =>
          have : z = y := Option.some.inj e1
          subst this
          exact ⟨g1, h1⟩
        | pk i =>
          obtain ⟨v, g', h3, h4⟩ := r.get e1
          have : x = v := by have := h1.2.symm.trans h3; simpa using this
          subst this
          exact ⟨g', h4⟩
/-- what a reckoning leaves -/
structure FinG (K : PySem.W.Frag) (F : Addr → Prop) (H : Hp) (σ : L2.St) (f : List Addr) (F' : Addr → Prop) (H' : Hp) (ρ' : Rho) (f' g : List Addr) : Prop where
  rep : Rep K F' H' σ ρ' f'
  nd : (g ++ f').Nodup
  off : ∀ a ∈ g, ¬ F' a
  sub : ∀ a ∈ g ++ f', a ∈ f ∨ H a = none
  lst : ∀ a ∈ g, Mu H' a
  chg : Chg F H F' H' f
theorem FinG.refl {ρ : Rho} {f : List Addr} (r : Rep K F H σ ρ f) : FinG K F H σ f F H ρ f [] :=
  ⟨r, by simpa using r.nd, by simp, fun a h => .inl (by simpa using h), by simp, .refl⟩
theorem FinG.sub' {f f1 g1 : List Addr} {ρ1 : Rho} (a : FinG K F H σ f F1 H1 ρ1 f1 g1) : ∀ b ∈ f1, b ∈ f ∨ H b = none := fun b hb => a.sub b (List.mem_append_right _ hb)
theorem FinG.trans {f f1 f2 g1 g2 : List Addr} {ρ1 ρ2 : Rho} (a : FinG K F H σ f F1 H1 ρ1 f1 g1) (b : FinG K F1 H1 σ f1 F2 H2 ρ2 f2 g2) : FinG K F H σ f F2 H2 ρ2 f2 (g1 ++ g2) := by
  have ne1 : ∀ x ∈ g1, H1 x ≠ none := fun x hx z => by obtain ⟨xs, e⟩ := a.lst x hx; rw [e] at z; cases z
  have nf1 : ∀ x ∈ g1, x ∉ f1 := fun x hx z => (List.nodup_append.mp a.nd).2.2 x hx x z rfl
  refine ⟨b.rep, ?_, fun x hx => ?_, fun x hx => ?_, fun x hx => ?_, a.chg.trans b.chg a.sub'⟩
  · rw [List.append_assoc]
    refine List.nodup_append.mpr ⟨(List.nodup_append.mp a.nd).1, b.nd, fun x hx y hy e => ?_⟩
    subst e
    rcases b.sub x hy with z | z
    · exact nf1 x hx z
    · exact ne1 x hx z
  · rcases List.mem_append.mp hx with hx | hx
    · intro z
      rcases b.chg.new x z with q | q | q
      · exact a.off x hx q
      · exact nf1 x hx q
      · exact ne1 x hx q
    · exact b.off x hx
  · have key : ∀ y ∈ g2 ++ f2, y ∈ f ∨ H y = none := fun y hy => by
      rcases b.sub y hy with z | z
      · exact a.sub' y z
      · refine .inr ?_
        cases e : H y with
        | none => rfl
        | some o => exact absurd z (a.chg.dom y (by rw [e]; simp))
    rw [List.append_assoc] at hx
    rcases List.mem_append.mp hx with hx | hx
    · exact a.sub x (List.mem_append_left _ hx)
    · exact key x hx
  · rcases List.mem_append.mp hx with hx | hx
    · obtain ⟨xs, e⟩ := a.lst x hx
      exact ⟨xs, b.chg.keep x _ e (nf1 x hx)⟩
    · exact b.lst x hx
/-- temporaries stay behind a further reckoning -/
theorem FinG.apart {f f1 g1 : List Addr} {ρ1 : Rho} (a : FinG K F H σ f F1 H1 ρ1 f1 g1) : ∀ x ∈ g1, x ∉ f1 := fun x hx z => (List.nodup_append.mp a.nd).2.2 x hx x z rfl
theorem FinG.drop {f f1 g1 : List Addr} {ρ1 : Rho} (a : FinG K F H σ f F1 H1 ρ1 f1 g1) : FinG K F H σ f F1 H1 ρ1 f1 [] :=
  ⟨a.rep, by simpa using a.rep.nd, by simp, fun x hx => a.sub x (List.mem_append_right _ (by simpa using hx)), by simp, a.chg⟩
end
end MS
namespace MS
open PySem PySem.Spec PyProof.Rows L2

/-- what an operation leaves: a datum, shared or a new list of one's own; nothing that stood is other -/
def Res (K : PySem.W.Frag) (F : Addr → Prop) (H : Hp) (Q : Ety → Prop) (v : V) (H' : Hp) : Prop :=
  ∃ (e : Ety) (g : List Addr), Chg F H F H' [] ∧ Ow K F H' e.d e.p v g ∧ (∀ a ∈ g, H a = none) ∧ g.Nodup ∧ Q e
section
variable {K : PySem.W.Frag} {F : Addr → Prop} {H : Hp} {Q : Ety → Prop}
theorem chg_new {p : Addr} {o : HO} (h : H p = none) : Chg F H F (upd H p o) [] :=
  ⟨fun _ q => q, fun _ q => .inl q, fun b u e _ => by rw [upd_ne (ne_of_none e h)]; exact e, fun b q => by
    by_cases e : b = p
    · subst e; exact absurd h q
    · rw [upd_ne e]; exact q⟩
theorem res_sh {d : D} {v : V} (h : Dv K F H d v) (q : Q (sh d)) : Res K F H Q v H := ⟨sh d, [], .refl, Ow_sh.mpr ⟨rfl, h⟩, by simp, by simp, q⟩
theorem res_lst {ds : List D} {xs : List V} {p : Addr} (hp : H p = none) (h : DvA K F H ds xs) (q : Q (ownL (.list ds))) : Res K F H Q (.ref p) (upd H p (.lst xs)) := by
  refine ⟨ownL (.list ds), [p], chg_new hp, Ow_list.mpr ⟨p, xs, [], rfl, upd_same, rfl, OwA_sh.mpr ⟨rfl, ?_⟩, by simp⟩, by simpa using hp, by simp, q⟩
  exact DvA.chg (chg_new hp) (by simp) (by simp) _ _ h
theorem res_tup {ds : List D} {xs : List V} {p : Addr} (hp : H p = none) (h : DvA K F H ds xs) (q : Q (sh (.tuple ds))) : Res K F H Q (.ref p) (upd H p (.tup xs)) := by
  refine ⟨sh (.tuple ds), [], chg_new hp, Ow_sh.mpr ⟨rfl, ?_⟩, by simp, by simp, q⟩
  simp only [Dv]
  exact ⟨p, xs, rfl, .of upd_same, DvA.chg (chg_new hp) (by simp) (by simp) _ _ h⟩
theorem Res.fin {σ : L2.St} {ρ : Rho} {f : List Addr} {v : V} {H' : Hp} (r : Rep K F H σ ρ f) (h : Res K F H Q v H') : ∃ e g, FinG K F H σ f F H' ρ f g ∧ Ow K F H' e.d e.p v g ∧ Q e := by
  obtain ⟨e, g, c, o, hn, nd, q⟩ := h
  refine ⟨e, g, ⟨r.new c fun a ha => c.dom a (r.there a ha), ?_, fun a ha z => r.there a z (hn a ha), fun a ha => ?_, Ow.lst _ _ _ _ o, c.weak (by simp)⟩, o, q⟩
  · exact List.nodup_append.mpr ⟨nd, r.nd, fun a ha b hb e => by subst e; exact r.ne hb (hn a ha)⟩
  · rcases List.mem_append.mp ha with z | z
    · exact .inr (hn a z)
    · exact .inl z
end

/-! ### as data for == -/
section
variable {K : PySem.W.Frag} {F : Addr → Prop} {H : Hp}
mutual
theorem Dv.dp : ∀ (d : D) (v : V), d.canLay0 = true → Dv K F H d v → Dp K H v d
  | .none, v, _, h => by simp only [Dv] at h; subst h; exact .non
  | .bool b, v, _, h => by simp only [Dv] at h; subst h; exact .bl b
  | .int i, v, _, h => by simp only [Dv] at h; subst h; exact .int i
  | .str x, v, _, h => by simp only [Dv] at h; subst h; exact .str x
  | .list ds, v, z, h => by
    simp only [Dv] at h
    simp only [PyData.canLay0] at z
    obtain ⟨a, xs, rfl, _, h1, h2⟩ := h
    exact .lst (.of h1) (DvA.dp ds xs z h2)
  | .tuple ds, v, z, h => by
    simp only [Dv] at h
    simp only [PyData.canLay0] at z
    obtain ⟨a, xs, rfl, h1, h2⟩ := h
    exact .tup h1 (DvA.dp ds xs z h2)
  | .dict _, v, z, h => by simp [PyData.canLay0] at z
theorem DvA.dp : ∀ (ds : List D) (xs : List V), PyData.canLayAll0 ds = true → DvA K F H ds xs → DpAll K H xs ds
  | [], xs, _, h => by rw [DvA_nil] at h; subst h; exact .nil
  | d :: ds, xs, z, h => by
    simp only [PyData.canLayAll0, Bool.and_eq_true] at z
    obtain ⟨x, xr, rfl, h1, h2⟩ := DvA_cons.mp h
    exact .cons (Dv.dp d x z.1 h1) (DvA.dp ds xr z.2 h2)
end
mutual
theorem Ow.dp : ∀ (d : D) (p : Perm) (v : V) (g : List Addr), d.canLay0 = true → Ow K F H d p v g → Dp K H v d
  | .list ds, .own p, v, g, z, h => by
    simp only [PyData.canLay0] at z
    obtain ⟨a, xs, g', rfl, h1, rfl, h2, _⟩ := Ow_list.mp h
    exact .lst (.of h1) (OwA.dp ds p xs g' z h2)
  | .list ds, .sh, v, g, z, h => Dv.dp _ _ z (Ow_sh.mp h).2
  | .list ds, .raw, v, g, z, h => by
    simp only [PyData.canLay0] at z
    obtain ⟨_, a, xs, rfl, h1, h2⟩ := Ow_raw.mp h
    refine .lst ?_ (DvA.dp ds xs z h2)
    rcases h1 with ⟨o, h1⟩ | h1
    · exact .inl (.inr ⟨o, h1⟩)
    · exact .inr h1
  | .none, p, v, g, z, h => Dv.dp _ _ z (h.scal rfl)
  | .bool _, p, v, g, z, h => Dv.dp _ _ z (h.scal rfl)
  | .int _, p, v, g, z, h => Dv.dp _ _ z (h.scal rfl)
  | .str _, p, v, g, z, h => Dv.dp _ _ z (h.scal rfl)
  | .tuple ds, p, v, g, z, h => by
    simp only [PyData.canLay0] at z
    obtain ⟨a, xs, rfl, h1, h2⟩ := h.tup
    exact .tup h1 (DvA.dp ds xs z h2)
  | .dict _, p, v, g, z, h => by simp [PyData.canLay0] at z
theorem OwA.dp : ∀ (ds : List D) (p : Perm) (xs : List V) (g : List Addr), PyData.canLayAll0 ds = true → OwA K F H ds p xs g → DpAll K H xs ds
  | [], p, xs, g, _, h => by rw [OwA_nil] at h; rw [h.1]; exact .nil
  | d :: ds, p, xs, g, z, h => by
    simp only [PyData.canLayAll0, Bool.and_eq_true] at z
    obtain ⟨x, xr, f1, f2, rfl, rfl, h1, h2⟩ := OwA_cons.mp h
    exact .cons (Ow.dp d p x f1 z.1 h1) (OwA.dp ds p xr f2 z.2 h2)
end
end

/-! ### operations -/
def BinOk (X : Cx) (f : Value → Value → Sem Value) (pf : List Ety → (Ety → Prop) → Prop) : Prop :=
  ∃ r, OpR X f r ∧ ∀ (F : Addr → Prop) (H : Hp) (e1 e2 : Ety) (v1 v2 : V) (g1 g2 : List Addr) (Q : Ety → Prop), Ow X.K F H e1.d e1.p v1 g1 → Ow X.K F H e2.d e2.p v2 g2 → pf [e1, e2] Q → r v1 v2 H (Res X.K F H Q)
def UnOk (X : Cx) (f : Value → Sem Value) (pf : List Ety → (Ety → Prop) → Prop) : Prop :=
  ∃ r, UnR X f r ∧ ∀ (F : Addr → Prop) (H : Hp) (e1 : Ety) (v1 : V) (g1 : List Addr) (Q : Ety → Prop), Ow X.K F H e1.d e1.p v1 g1 → pf [e1] Q → r v1 H (Res X.K F H Q)
def CallOk (X : Cx) (f : Value) (pf : List Ety → (Ety → Prop) → Prop) : Prop :=
  ∃ r, CallR X f r ∧ ∀ (F : Addr → Prop) (H : Hp) (es : List Ety) (vs : List V) (Q : Ety → Prop), EtA X.K F H es vs → pf es Q → r vs H (Res X.K F H Q)
section
variable {X : Cx}
theorem bin_ii {f : Value → Value → Sem Value} {C : Int → Int → Prop} {g : Int → Int → Int} {pf : List Ety → (Ety → Prop) → Prop} (h : OpR X f (rI C fun i j => .int (g i j)))
    (hp : ∀ e1 e2 Q, pf [e1, e2] Q → ∃ i j, e1.d = .int i ∧ e2.d = .int j ∧ C i j ∧ Q (sh (.int (g i j)))) : BinOk X f pf := by
  refine ⟨_, h, fun F H e1 e2 v1 v2 g1 g2 Q o1 o2 q => ?_⟩
  obtain ⟨i, j, h1, h2, hc, q⟩ := hp _ _ _ q
  rw [h1] at o1; rw [h2] at o2
  exact ⟨i, j, o1.int, o2.int, hc, res_sh dv_int q⟩
theorem bin_ii0 {f : Value → Value → Sem Value} {g : Int → Int → Int} {pf : List Ety → (Ety → Prop) → Prop} (h : OpR X f (rI0 fun i j => .int (g i j)))
    (hp : ∀ e1 e2 Q, pf [e1, e2] Q → ∃ i j, e1.d = .int i ∧ e2.d = .int j ∧ Q (sh (.int (g i j)))) : BinOk X f pf := by
  refine ⟨_, h, fun F H e1 e2 v1 v2 g1 g2 Q o1 o2 q => ?_⟩
  obtain ⟨i, j, h1, h2, q⟩ := hp _ _ _ q
  rw [h1] at o1; rw [h2] at o2
  exact ⟨i, j, o1.int, o2.int, res_sh dv_int q⟩
theorem bin_ib {f : Value → Value → Sem Value} {g : Int → Int → Bool} (h : OpR X f (rI0 fun i j => .bl (g i j))) : BinOk X f (pCmp g) := by
  refine ⟨_, h, fun F H e1 e2 v1 v2 g1 g2 Q o1 o2 q => ?_⟩
  obtain ⟨p1, d1⟩ := e1
  obtain ⟨p2, d2⟩ := e2
  unfold pCmp at q
  split at q
  · rename_i a b e
    simp only [List.cons.injEq, Ety.mk.injEq] at e
    obtain ⟨⟨_, rfl⟩, ⟨_, rfl⟩, _⟩ := e
    exact ⟨_, _, o1.int, o2.int, res_sh dv_bl q⟩
  · exact q.elim
theorem b_sub : BinOk X (binaryOp .Sub) pSub := bin_ii0 op_sub fun e1 e2 Q q => by
  obtain ⟨p1, d1⟩ := e1
  obtain ⟨p2, d2⟩ := e2
  unfold pSub at q
  split at q
  · rename_i a b e
    simp only [List.cons.injEq, Ety.mk.injEq] at e
    obtain ⟨⟨_, rfl⟩, ⟨_, rfl⟩, _⟩ := e
    exact ⟨_, _, rfl, rfl, q⟩
  · exact q.elim
theorem b_mod : BinOk X (binaryOp .Mod) pMod := bin_ii op_mod fun e1 e2 Q q => by
  obtain ⟨p1, d1⟩ := e1
  obtain ⟨p2, d2⟩ := e2
  unfold pMod at q
  split at q
  · rename_i a b e
    simp only [List.cons.injEq, Ety.mk.injEq] at e
    obtain ⟨⟨_, rfl⟩, ⟨_, rfl⟩, _⟩ := e
    exact ⟨_, _, rfl, rfl, q⟩
  · exact q.elim
theorem b_pow : BinOk X (binaryOp .Pow) pPow := bin_ii op_pow fun e1 e2 Q q => by
  obtain ⟨p1, d1⟩ := e1
  obtain ⟨p2, d2⟩ := e2
  unfold pPow at q
  split at q
  · rename_i a b e
    simp only [List.cons.injEq, Ety.mk.injEq] at e
    obtain ⟨⟨_, rfl⟩, ⟨_, rfl⟩, _⟩ := e
    exact ⟨_, _, rfl, rfl, q⟩
  · exact q.elim
theorem b_shl : BinOk X (binaryOp .LShift) pShl := bin_ii op_shl fun e1 e2 Q q => by
  obtain ⟨p1, d1⟩ := e1
  obtain ⟨p2, d2⟩ := e2
  unfold pShl at q
  split at q
  · rename_i a b e
    simp only [List.cons.injEq, Ety.mk.injEq] at e
    obtain ⟨⟨_, rfl⟩, ⟨_, rfl⟩, _⟩ := e
    exact ⟨_, _, rfl, rfl, q⟩
  · exact q.elim
theorem b_fdiv : BinOk X (binaryOp .FloorDiv) pFdiv := by
  refine ⟨_, OpR.or op_fdiv op_fdivW, fun F H e1 e2 v1 v2 g1 g2 Q o1 o2 q => ?_⟩
  obtain ⟨p1, d1⟩ := e1
  obtain ⟨p2, d2⟩ := e2
  unfold pFdiv at q
  split at q
  · rename_i a b e
    simp only [List.cons.injEq, Ety.mk.injEq] at e
    obtain ⟨⟨_, rfl⟩, ⟨_, rfl⟩, _⟩ := e
    rcases q with ⟨hc | hc, q⟩
    · exact .inl ⟨_, _, o1.int, o2.int, hc, res_sh dv_int q⟩
    · exact .inr ⟨_, _, o1.int, o2.int, hc, res_sh dv_int q⟩
  · exact q.elim
theorem b_mul : BinOk X (binaryOp .Mult) pMul := by
  refine ⟨_, OpR.or (OpR.or op_mul op_mulW) (OpR.or op_rep op_repA), fun F H e1 e2 v1 v2 g1 g2 Q o1 o2 q => ?_⟩
  obtain ⟨p1, d1⟩ := e1
  obtain ⟨p2, d2⟩ := e2
  unfold pMul at q
  split at q
  · rename_i a b e
    simp only [List.cons.injEq, Ety.mk.injEq] at e
    obtain ⟨⟨_, rfl⟩, ⟨_, rfl⟩, _⟩ := e
    rcases q with ⟨hc | hc, q⟩
    · exact .inl (.inl ⟨_, _, o1.int, o2.int, hc, res_sh dv_int q⟩)
    · exact .inl (.inr ⟨_, _, o1.int, o2.int, hc, res_sh dv_int q⟩)
  · rename_i p xs _ k e
    simp only [List.cons.injEq, Ety.mk.injEq] at e
    obtain ⟨⟨rfl, rfl⟩, ⟨_, rfl⟩, _⟩ := e
    obtain ⟨hp, h1, h2, hz, q⟩ := q
    obtain ⟨a, ys, rfl, ha, hd⟩ := o1.listTr hp
    exact .inr (.inl ⟨a, k, ys, rfl, o2.int, ha, by omega, by omega, by rw [hd.length]; exact hz, fun p hp => res_lst hp (hd.rep _) q⟩)
  · rename_i xs _ k e
    simp only [List.cons.injEq, Ety.mk.injEq] at e
    obtain ⟨⟨_, rfl⟩, ⟨_, rfl⟩, _⟩ := e
    obtain ⟨h1, h2, hz, q⟩ := q
    obtain ⟨a, ys, rfl, ha, hd⟩ := o1.tup
    have hl := hd.length
    refine .inr (.inr ⟨a, k, ys, rfl, o2.int, ha, h1, h2, by rw [hl]; exact hz, fun z => ?_, fun z hk p hp => ?_, fun z hk p hp => res_tup hp (hd.rep _) q⟩)
    · have e : (List.replicate k.toNat xs).flatten = xs := by
        rcases z with z | z
        · have hx : xs = [] := List.eq_nil_of_length_eq_zero (by rw [← hl, z]; rfl)
          rw [hx]; simp
        · rw [z]; simp
      rw [e] at q
      refine res_sh ?_ q
      simp only [Dv]
      exact ⟨a, ys, rfl, ha, hd⟩
    · have e : (List.replicate k.toNat xs).flatten = [] := by
        have : k.toNat = 0 := by omega
        rw [this]; simp
      rw [e] at q
      exact res_tup hp (DvA_nil.mpr rfl) q
  · exact q.elim
theorem b_add : BinOk X (binaryOp .Add) pAdd := by
  refine ⟨_, OpR.or op_add (OpR.or op_catA op_cat), fun F H e1 e2 v1 v2 g1 g2 Q o1 o2 q => ?_⟩
  obtain ⟨p1, d1⟩ := e1
  obtain ⟨p2, d2⟩ := e2
  unfold pAdd at q
  split at q
  · rename_i a b e
    simp only [List.cons.injEq, Ety.mk.injEq] at e
    obtain ⟨⟨_, rfl⟩, ⟨_, rfl⟩, _⟩ := e
    exact .inl ⟨_, _, o1.int, o2.int, res_sh dv_int q⟩
  · rename_i xs _ ys e
    simp only [List.cons.injEq, Ety.mk.injEq] at e
    obtain ⟨⟨_, rfl⟩, ⟨_, rfl⟩, _⟩ := e
    obtain ⟨hz, q⟩ := q
    obtain ⟨a, us, rfl, ha, hd⟩ := o1.tup
    obtain ⟨b, ws, rfl, hb, hd'⟩ := o2.tup
    refine .inr (.inl ⟨a, b, us, ws, rfl, rfl, ha, hb, by rw [hd.length, hd'.length]; exact hz, fun z => ?_, fun _ z => ?_, fun _ _ p hp => res_tup hp (dvA_append hd hd') q⟩)
    · subst z
      have e1 : xs = [] := List.eq_nil_of_length_eq_zero (by simpa using hd.length.symm)
      subst e1
      refine res_sh ?_ q
      simp only [Dv]
      exact ⟨b, ws, rfl, hb, hd'⟩
    · subst z
      have e1 : ys = [] := List.eq_nil_of_length_eq_zero (by simpa using hd'.length.symm)
      subst e1
      rw [List.append_nil] at q
      refine res_sh ?_ q
      simp only [Dv]
      exact ⟨a, us, rfl, ha, hd⟩
  · rename_i p xs q' ys e
    simp only [List.cons.injEq, Ety.mk.injEq] at e
    obtain ⟨⟨rfl, rfl⟩, ⟨rfl, rfl⟩, _⟩ := e
    obtain ⟨t1, t2, hz, q⟩ := q
    obtain ⟨a, us, rfl, ha, hd⟩ := o1.listTr t1
    obtain ⟨b, ws, rfl, hb, hd'⟩ := o2.listTr t2
    exact .inr (.inr ⟨a, b, us, ws, rfl, rfl, ha, hb, by rw [hd.length, hd'.length]; exact hz, fun p hp => res_lst hp (dvA_append hd hd') q⟩)
  · exact q.elim
theorem lexAt_lt (ns ms : List Int) : ∀ (xs ys : List Int) (i : Nat), xs = ns.drop i → ys = ms.drop i → i ≤ ns.length → i ≤ ms.length → Ob.lexAt (fun j => decide (ns.getD j 0 = ms.getD j 0)) (fun j => decide (ns.getD j 0 < ms.getD j 0)) (decide (ns.length < ms.length)) i (min ns.length ms.length - i) = lexLt xs ys
  | xs, [], i, hx, hy, h1, h2 => by
    have e : i = ms.length := by
      have := congrArg List.length hy
      simp at this; omega
    have e2 : min ns.length ms.length - i = 0 := by omega
    rw [e2, Ob.lexAt_zero]
    have : lexLt xs [] = false := by cases xs <;> rfl
    rw [this]; simp; omega
  | [], y :: ys, i, hx, hy, h1, h2 => by
    have e : i = ns.length := by
      have := congrArg List.length hx
      simp at this; omega
    have e1 : i < ms.length := by
      have := congrArg List.length hy
      simp at this; omega
    have e2 : min ns.length ms.length - i = 0 := by omega
    rw [e2, Ob.lexAt_zero]
    simp [lexLt]; omega
  | x :: xs, y :: ys, i, hx, hy, h1, h2 => by
    have l1 : i < ns.length := by
      have := congrArg List.length hx
      simp at this; omega
    have l2 : i < ms.length := by
      have := congrArg List.length hy
      simp at this; omega
    rw [List.drop_eq_getElem_cons l1, List.cons.injEq] at hx
    rw [List.drop_eq_getElem_cons l2, List.cons.injEq] at hy
    have g1 : ns.getD i 0 = x := by rw [List.getD_eq_getElem?_getD, List.getElem?_eq_getElem l1, hx.1]; rfl
    have g2 : ms.getD i 0 = y := by rw [List.getD_eq_getElem?_getD, List.getElem?_eq_getElem l2, hy.1]; rfl
    rw [show min ns.length ms.length - i = (min ns.length ms.length - (i + 1)) + 1 by omega, Ob.lexAt_succ]
    simp only [lexLt]
    rw [g1, g2, lexAt_lt ns ms xs ys (i + 1) hx.2 hy.2 l1 l2]
    by_cases h : x = y <;> simp [h]
def rLtT (K : PySem.W.Frag) : R2 := fun x y H Q => ∃ (a b : Addr) (ns ms : List Int), x = .ref a ∧ y = .ref b ∧ SqT K H a (ns.map V.int) ∧ SqT K H b (ms.map V.int) ∧ Q (.bl (lexLt ns ms)) H
theorem op_ltT (hu : X.A.units < cLine) : OpR X (compareOp .Lt) (rLtT X.K) := by
  intro pins s σ H x y v u Q I rx ry h
  obtain ⟨a, b, ns, ms, rfl, rfl, ha, hb, q⟩ := h
  cases rx
  cases ry
  obtain ⟨its, r1, p1, _⟩ := I.tuple ha
  obtain ⟨its2, r2, p2, _⟩ := I.tuple hb
  have i1 : IntsAre its ns := Vals.ints r1
  have i2 : IntsAre its2 ms := Vals.ints r2
  have e1 : its.toArray.size = ns.length := by rw [List.size_toArray]; exact i1.length
  have e2 : its2.toArray.size = ms.length := by rw [List.size_toArray]; exact i2.length
  have at1 : ∀ j (h1 : j < its.toArray.size), ∃ t, its.toArray[j] = .int (ns.getD j 0) t := fun j h1 => PyProof.Rows.IntsAre.int_at i1 _ _ (by simp at h1; simp [h1])
  have at2 : ∀ j (h1 : j < its2.toArray.size), ∃ t, its2.toArray[j] = .int (ms.getD j 0) t := fun j h1 => PyProof.Rows.IntsAre.int_at i2 _ _ (by simp at h1; simp [h1])
  have R := Ob.RcOp.tuples_lt (A := X.A) (s := s) (e := fun j => decide (ns.getD j 0 = ms.getD j 0)) (r := fun j => decide (ns.getD j 0 < ms.getD j 0)) p1 p2 hu (fun j h1 h2 => by
    obtain ⟨t, et⟩ := at1 j h1
    obtain ⟨t', et'⟩ := at2 j h2
    rw [et, et']
    have z : (ns.getD j 0 == ms.getD j 0) = decide (ns.getD j 0 = ms.getD j 0) := by
      by_cases q : ns.getD j 0 = ms.getD j 0
      · rw [decide_eq_true q]; exact beq_iff_eq.mpr q
      · rw [decide_eq_false q]; exact beq_eq_false_iff_ne.mpr q
    rw [← z]
    exact SeqAt.EqAt.int_int _ _ _ _) (fun j h1 h2 _ => by
    obtain ⟨t, et⟩ := at1 j h1
    obtain ⟨t', et'⟩ := at2 j h2
    rw [et, et']
    exact Ob.RcOp.lt_int _ _ _ _)
  rw [e1, e2] at R
  have z : wpAny (model X.prog X.w) X.A (compareOp .Lt (.ref a) (.ref b)) (EP X pins σ Q) X.xe s := R X.prog X.w X.xe (EP X pins σ Q) ⟨.bl _, H, I, rfl, by
    have := lexAt_lt ns ms ns ms 0 rfl rfl (by omega) (by omega)
    rw [Nat.sub_zero] at this
    rw [this]; exact q⟩
  exact z
/-! ### < of lists of ints -/
theorem ints_alike : ∀ ns ms : List Int, PySem.W.alikeAll (intsD ns) (intsD ms) = true
  | [], _ => by unfold PySem.W.alikeAll; rfl
  | _ :: _, [] => by simp [intsD, PySem.W.alikeAll]
  | x :: ns, y :: ms => by
    have ih := ints_alike ns ms
    simp only [intsD, List.map_cons] at ih ⊢
    simp [PySem.W.alikeAll, PySem.W.alike, ih]
theorem ints_depth : ∀ ns : List Int, PyData.depthAll (intsD ns) = 0
  | [] => by simp [intsD, PyData.depthAll]
  | x :: ns => by
    have ih := ints_depth ns
    simp only [intsD, List.map_cons] at ih ⊢
    simp [PyData.depthAll, PyData.depth, ih]
theorem ints_lay : ∀ ns : List Int, PyData.canLayAll0 (intsD ns) = true
  | [] => by simp [intsD, PyData.canLayAll0]
  | x :: ns => by
    have ih := ints_lay ns
    simp only [intsD, List.map_cons] at ih ⊢
    simp [PyData.canLayAll0, PyData.canLay0, ih]
theorem lexLt_lt : ∀ ns ms : List Int, decide (ns < ms) = lexLt ns ms
  | ns, [] => by
    have e : lexLt ns [] = false := by cases ns <;> rfl
    rw [e]; simp
  | [], y :: ms => by simp [lexLt]
  | x :: ns, y :: ms => by
    have ih := lexLt_lt ns ms
    unfold lexLt
    by_cases e : x = y
    · subst e
      rw [if_pos rfl, ← ih]
      simp [List.cons_lt_cons_iff]
    · rw [if_neg e]
      simp [List.cons_lt_cons_iff, e]
def rLtL (K : PySem.W.Frag) : R2 := fun x y H Q => ∃ ns ms, Dp K H x (.list (intsD ns)) ∧ Dp K H y (.list (intsD ms)) ∧ Q (.bl (lexLt ns ms)) H
theorem op_ltL (hu : X.A.units + 65 < cLine) : OpR X (compareOp .Lt) (rLtL X.K) := by
  intro pins s σ H x y v u Q I rx ry ⟨ns, ms, hd, he, q⟩
  obtain ⟨as, r1⟩ := Dp.reads I _ x v hd rx
  obtain ⟨bs, r2⟩ := Dp.reads I _ y u he ry
  have h1 : PySem.W.alike (.list (intsD ns)) (.list (intsD ms)) = true := by
    unfold PySem.W.alike; exact ints_alike ns ms
  have h2 : X.A.units + min (PyData.depth (.list (intsD ns))) (PyData.depth (.list (intsD ms))) < cLine := by
    have : PyData.depth (.list (intsD ns)) = 1 := by simp [PyData.depth, ints_depth]
    have := Nat.min_le_left (PyData.depth (.list (intsD ns))) (PyData.depth (.list (intsD ms)))
    omega
  refine PySem.W.lt_data r1 r2 h1 (fun z => nomatch z) h2 ?_
  have e : PySem.W.dataLt (.list (intsD ns)) (.list (intsD ms)) = lexLt ns ms := by
    rw [← lexLt_lt, ← PySem.W.dataLt_ints, PySem.W.dataLt_list]; rfl
  rw [e]
  exact ⟨.bl _, H, I, rfl, q⟩
theorem b_lt (hu : X.A.units + 65 < cLine) : BinOk X (compareOp .Lt) pLt := by
  refine ⟨_, OpR.or op_lt (OpR.or (op_ltT (by omega)) (op_ltL hu)), fun F H e1 e2 v1 v2 g1 g2 Q o1 o2 q => ?_⟩
  obtain ⟨p1, d1⟩ := e1
  obtain ⟨p2, d2⟩ := e2
  unfold pLt at q
  split at q
  · rename_i a b e
    simp only [List.cons.injEq, Ety.mk.injEq] at e
    obtain ⟨⟨_, rfl⟩, ⟨_, rfl⟩, _⟩ := e
    exact .inl ⟨_, _, o1.int, o2.int, res_sh dv_bl q⟩
  · rename_i xs _ ys e
    simp only [List.cons.injEq, Ety.mk.injEq] at e
    obtain ⟨⟨_, rfl⟩, ⟨_, rfl⟩, _⟩ := e
    obtain ⟨ns, ms, rfl, rfl, q⟩ := q
    obtain ⟨a, us, rfl, ha, hd⟩ := o1.tup
    obtain ⟨b, ws, rfl, hb, hd'⟩ := o2.tup
    have e1 := DvA.ints hd
    have e2 := DvA.ints hd'
    subst e1 e2
    exact .inr (.inl ⟨a, b, ns, ms, rfl, rfl, ha, hb, res_sh dv_bl q⟩)
  · rename_i xs _ ys e
    simp only [List.cons.injEq, Ety.mk.injEq] at e
    obtain ⟨⟨rfl, rfl⟩, ⟨rfl, rfl⟩, _⟩ := e
    obtain ⟨ns, ms, rfl, rfl, hp, hq, q⟩ := q
    exact .inr (.inr ⟨ns, ms, Ow.dp _ _ _ _ (by simp [PyData.canLay0, ints_lay]) o1, Ow.dp _ _ _ _ (by simp [PyData.canLay0, ints_lay]) o2, res_sh dv_bl q⟩)
  · exact q.elim
theorem lexAt_le (ns ms : List Int) : ∀ (xs ys : List Int) (i : Nat), xs = ns.drop i → ys = ms.drop i → i ≤ ns.length → i ≤ ms.length → Ob.lexAt (fun j => decide (ns.getD j 0 = ms.getD j 0)) (fun j => decide (ns.getD j 0 ≤ ms.getD j 0)) (decide (ns.length ≤ ms.length)) i (min ns.length ms.length - i) = !lexLt ys xs
  | xs, [], i, hx, hy, h1, h2 => by
    have e : i = ms.length := by
      have := congrArg List.length hy
      simp at this; omega
    have e2 : min ns.length ms.length - i = 0 := by omega
    have ex : xs.length = ns.length - i := by rw [hx, List.length_drop]
    rw [e2, Ob.lexAt_zero]
    cases xs with
    | nil =>
      simp at ex
      simp [lexLt]; omega
    | cons x xs =>
      simp at ex
      simp [lexLt]; omega
  | [], y :: ys, i, hx, hy, h1, h2 => by
    have e : i = ns.length := by
      have := congrArg List.length hx
      simp at this; omega
    have e1 : i < ms.length := by
      have := congrArg List.length hy
      simp at this; omega
    have e2 : min ns.length ms.length - i = 0 := by omega
    rw [e2, Ob.lexAt_zero]
    simp [lexLt]; omega
  | x :: xs, y :: ys, i, hx, hy, h1, h2 => by
    have l1 : i < ns.length := by
      have := congrArg List.length hx
      simp at this; omega
    have l2 : i < ms.length := by
      have := congrArg List.length hy
      simp at this; omega
    rw [List.drop_eq_getElem_cons l1, List.cons.injEq] at hx
    rw [List.drop_eq_getElem_cons l2, List.cons.injEq] at hy
    have g1 : ns.getD i 0 = x := by rw [List.getD_eq_getElem?_getD, List.getElem?_eq_getElem l1, hx.1]; rfl
    have g2 : ms.getD i 0 = y := by rw [List.getD_eq_getElem?_getD, List.getElem?_eq_getElem l2, hy.1]; rfl
    rw [show min ns.length ms.length - i = (min ns.length ms.length - (i + 1)) + 1 by omega, Ob.lexAt_succ]
    simp only [lexLt]
    rw [g1, g2, lexAt_le ns ms xs ys (i + 1) hx.2 hy.2 l1 l2]
    by_cases h : x = y
    · simp [h]
    · have h' : ¬ y = x := fun e => h e.symm
      simp [h, h']
      by_cases q : x ≤ y
      · have : ¬ y < x := by omega
        simp [q, this]
      · have : y < x := by omega
        simp [q, this]
def rLeT (K : PySem.W.Frag) : R2 := fun x y H Q => ∃ (a b : Addr) (ns ms : List Int), x = .ref a ∧ y = .ref b ∧ SqT K H a (ns.map V.int) ∧ SqT K H b (ms.map V.int) ∧ Q (.bl (!lexLt ms ns)) H
theorem op_leT (hu : X.A.units < cLine) : OpR X (compareOp .LtE) (rLeT X.K) := by
  intro pins s σ H x y v u Q I rx ry h
  obtain ⟨a, b, ns, ms, rfl, rfl, ha, hb, q⟩ := h
  cases rx
  cases ry
  obtain ⟨its, r1, p1, _⟩ := I.tuple ha
  obtain ⟨its2, r2, p2, _⟩ := I.tuple hb
  have i1 : IntsAre its ns := Vals.ints r1
  have i2 : IntsAre its2 ms := Vals.ints r2
  have e1 : its.toArray.size = ns.length := by rw [List.size_toArray]; exact i1.length
  have e2 : its2.toArray.size = ms.length := by rw [List.size_toArray]; exact i2.length
  have at1 : ∀ j (h1 : j < its.toArray.size), ∃ t, its.toArray[j] = .int (ns.getD j 0) t := fun j h1 => PyProof.Rows.IntsAre.int_at i1 _ _ (by simp at h1; simp [h1])
  have at2 : ∀ j (h1 : j < its2.toArray.size), ∃ t, its2.toArray[j] = .int (ms.getD j 0) t := fun j h1 => PyProof.Rows.IntsAre.int_at i2 _ _ (by simp at h1; simp [h1])
  have R := Ob.RcOp.tuples_le (A := X.A) (s := s) (e := fun j => decide (ns.getD j 0 = ms.getD j 0)) (r := fun j => decide (ns.getD j 0 ≤ ms.getD j 0)) p1 p2 hu (fun j h1 h2 => by
    obtain ⟨t, et⟩ := at1 j h1
    obtain ⟨t', et'⟩ := at2 j h2
    rw [et, et']
    have z : (ns.getD j 0 == ms.getD j 0) = decide (ns.getD j 0 = ms.getD j 0) := by
      by_cases q : ns.getD j 0 = ms.getD j 0
      · rw [decide_eq_true q]; exact beq_iff_eq.mpr q
      · rw [decide_eq_false q]; exact beq_eq_false_iff_ne.mpr q
    rw [← z]
    exact SeqAt.EqAt.int_int _ _ _ _) (fun j h1 h2 _ => by
    obtain ⟨t, et⟩ := at1 j h1
    obtain ⟨t', et'⟩ := at2 j h2
    rw [et, et']
    exact Ob.RcOp.le_int _ _ _ _)
  rw [e1, e2] at R
  have z : wpAny (model X.prog X.w) X.A (compareOp .LtE (.ref a) (.ref b)) (EP X pins σ Q) X.xe s := R X.prog X.w X.xe (EP X pins σ Q) ⟨.bl _, H, I, rfl, by
    have := lexAt_le ns ms ns ms 0 rfl rfl (by omega) (by omega)
    rw [Nat.sub_zero] at this
    rw [this]; exact q⟩
  exact z
theorem b_le (hu : X.A.units < cLine) : BinOk X (compareOp .LtE) pLe := by
  refine ⟨_, OpR.or op_le (op_leT hu), fun F H e1 e2 v1 v2 g1 g2 Q o1 o2 q => ?_⟩
  obtain ⟨p1, d1⟩ := e1
  obtain ⟨p2, d2⟩ := e2
  unfold pLe at q
  split at q
  · rename_i a b e
    simp only [List.cons.injEq, Ety.mk.injEq] at e
    obtain ⟨⟨_, rfl⟩, ⟨_, rfl⟩, _⟩ := e
    exact .inl ⟨_, _, o1.int, o2.int, res_sh dv_bl q⟩
  · rename_i xs _ ys e
    simp only [List.cons.injEq, Ety.mk.injEq] at e
    obtain ⟨⟨_, rfl⟩, ⟨_, rfl⟩, _⟩ := e
    obtain ⟨ns, ms, rfl, rfl, q⟩ := q
    obtain ⟨a, us, rfl, ha, hd⟩ := o1.tup
    obtain ⟨b, ws, rfl, hb, hd'⟩ := o2.tup
    have e1 := DvA.ints hd
    have e2 := DvA.ints hd'
    subst e1 e2
    exact .inr ⟨a, b, ns, ms, rfl, rfl, ha, hb, res_sh dv_bl q⟩
  · exact q.elim
theorem u_neg : UnOk X (unaryOp .USub) pNeg := by
  refine ⟨_, un_neg, fun F H e1 v1 g1 Q o1 q => ?_⟩
  obtain ⟨p1, d1⟩ := e1
  unfold pNeg at q
  split at q
  · rename_i a e
    simp only [List.cons.injEq, Ety.mk.injEq] at e
    obtain ⟨⟨_, rfl⟩, _⟩ := e
    exact ⟨_, o1.int, res_sh dv_int q⟩
  · exact q.elim
theorem b_eq (hu : X.A.units + 64 < cLine) : BinOk X (compareOp .Eq) pEq := by
  refine ⟨_, op_eqD hu, fun F H e1 e2 v1 v2 g1 g2 Q o1 o2 q => ?_⟩
  obtain ⟨s1, s2, q⟩ := q
  exact ⟨_, _, Ow.dp _ _ _ _ (SeqAt.canLay_of_shaped s1) o1, Ow.dp _ _ _ _ (SeqAt.canLay_of_shaped s2) o2, s1, s2, res_sh dv_bl q⟩
theorem b_ne (hu : X.A.units + 64 < cLine) : BinOk X (compareOp .NotEq) pNe := by
  refine ⟨_, op_neD hu, fun F H e1 e2 v1 v2 g1 g2 Q o1 o2 q => ?_⟩
  obtain ⟨s1, s2, q⟩ := q
  exact ⟨_, _, Ow.dp _ _ _ _ (SeqAt.canLay_of_shaped s1) o1, Ow.dp _ _ _ _ (SeqAt.canLay_of_shaped s2) o2, s1, s2, res_sh dv_bl q⟩
theorem isNon_v {K : PySem.W.Frag} {F : Addr → Prop} {H : Hp} {d : D} {p : Perm} {v : V} {g : List Addr} (o : Ow K F H d p v g) : decide (v = .non) = isNon d := by
  cases d with
  | none => have := o.scal rfl; simp only [Dv] at this; subst this; simp [isNon]
  | bool b => rw [o.bl]; simp [isNon]
  | int b => rw [o.int]; simp [isNon]
  | str b => have := o.scal rfl; simp only [Dv] at this; subst this; simp [isNon]
  | tuple ds => obtain ⟨a, _, rfl, _⟩ := o.tup; simp [isNon]
  | list ds => obtain ⟨a, _, _, rfl, _⟩ := o.list; simp [isNon]
  | dict ds =>
    cases p with
    | sh =>
      have := (Ow_sh.mp o).2
      simp only [Dv] at this
      rcases this with (⟨_, a, _, rfl, _⟩ | ⟨_, a, rfl, _⟩) | ⟨a, _, rfl, _⟩ <;> simp [isNon]
    | own p =>
      simp only [Ow] at o
      obtain ⟨a, _, _, rfl, _⟩ := o
      simp [isNon]
    | raw => exact nomatch (Ow_raw.mp o).2.1
theorem b_isN : BinOk X (compareOp .Is) (fun es Q => match es with
    | [a, ⟨_, .none⟩] => pIsN false [a] Q
    | _ => False) := by
  refine ⟨_, op_isN, fun F H e1 e2 v1 v2 g1 g2 Q o1 o2 q => ?_⟩
  obtain ⟨p2, d2⟩ := e2
  cases d2 <;> first | exact q.elim | skip
  have h2 := o2.scal rfl
  simp only [Dv] at h2
  refine ⟨h2, res_sh dv_bl ?_⟩
  rw [isNon_v o1]
  simpa [pIsN] using q
theorem b_notN : BinOk X (compareOp .IsNot) (fun es Q => match es with
    | [a, ⟨_, .none⟩] => pIsN true [a] Q
    | _ => False) := by
  refine ⟨_, op_notN, fun F H e1 e2 v1 v2 g1 g2 Q o1 o2 q => ?_⟩
  obtain ⟨p2, d2⟩ := e2
  cases d2 <;> first | exact q.elim | skip
  have h2 := o2.scal rfl
  simp only [Dv] at h2
  refine ⟨h2, res_sh dv_bl ?_⟩
  rw [isNon_v o1]
  simpa [pIsN] using q
theorem b_isB : BinOk X (compareOp .Is) (pIsB false) := by
  refine ⟨_, op_isBl, fun F H e1 e2 v1 v2 g1 g2 Q o1 o2 q => ?_⟩
  obtain ⟨p1, d1⟩ := e1
  obtain ⟨p2, d2⟩ := e2
  unfold pIsB at q
  split at q
  · rename_i a b e
    simp only [List.cons.injEq, Ety.mk.injEq] at e
    obtain ⟨⟨_, rfl⟩, ⟨_, rfl⟩, _⟩ := e
    exact ⟨_, _, o1.bl, o2.bl, res_sh dv_bl (by simpa using q)⟩
  · exact q.elim
theorem b_notB : BinOk X (compareOp .IsNot) (pIsB true) := by
  refine ⟨_, op_notBl, fun F H e1 e2 v1 v2 g1 g2 Q o1 o2 q => ?_⟩
  obtain ⟨p1, d1⟩ := e1
  obtain ⟨p2, d2⟩ := e2
  unfold pIsB at q
  split at q
  · rename_i a b e
    simp only [List.cons.injEq, Ety.mk.injEq] at e
    obtain ⟨⟨_, rfl⟩, ⟨_, rfl⟩, _⟩ := e
    exact ⟨_, _, o1.bl, o2.bl, res_sh dv_bl (by simpa using q)⟩
  · exact q.elim
end
end MS
namespace MS
open PySem PySem.Spec PyProof.Rows L2
/-! ### sum, min, max of a tuple of ints -/
section
variable {prog : Program} {w : World} {A : Around} {E : Value → Shared → Prop} {s : Shared} {l : Addr} {xs : Array (Int × Tok)}
theorem it_tup {Q : Value → Shared → Prop} (hl : s.heap.IsTuple l (intItems xs))
    (h : ∀ s₂ : Shared, s₂ = { s with heap := s.heap.push { cls := .type "tuple_iterator", data := .fields #[.ref l, .int 0 0] } } →
      (s₂.heap.IsTupleIter s.heap.objs.size l 0 ∧ s₂.heap.IsTuple l (intItems xs)) → (∀ b ∈ [s.heap.objs.size, l], b < s₂.heap.objs.size) → l ≠ s.heap.objs.size → Q (.ref s.heap.objs.size) s₂) :
    wpAny (model prog w) A (pyIter (.ref l)) Q E s := by
  have hlt : l < s.heap.objs.size := by obtain ⟨_, e, _⟩ := hl; exact Heap.lt_size e
  refine wpAny_pyIter_tuple hl (h _ rfl ⟨⟨_, Heap.get?_push_size _ rfl, rfl, rfl⟩, hl.push _⟩ (fun b hb => ?_) (Nat.ne_of_lt hlt))
  show b < (s.heap.push _).objs.size
  rw [Heap.size_push]
  simp only [List.mem_cons, List.not_mem_nil, or_false] at hb
  rcases hb with rfl | rfl
  · exact Nat.lt_succ_self _
  · exact Nat.lt_succ_of_lt hlt
theorem old_tup {h' : Heap} {o0 : Obj} (hk : ∀ b o, b ∉ [s.heap.objs.size] → (s.heap.push o0).get? b = some o → h'.get? b = some o) :
    ∀ b o, s.heap.get? b = some o → h'.get? b = some o := fun b o e => by
  refine hk b o (fun hm => ?_) (Heap.get?_push_of_some _ e)
  have e1 : b = s.heap.objs.size := by simpa using hm
  exact absurd (e1 ▸ Heap.lt_size e) (Nat.lt_irrefl _)
theorem sum_tup0 {Q : Value → Shared → Prop} (hh : A.handled = none) (hl : s.heap.IsTuple l (intItems xs))
    (h : ∀ h' tk t', (∀ b o, s.heap.get? b = some o → h'.get? b = some o) → Q (.int (preSum (numAt xs) xs.size) t') { s with heap := h', toks := tk }) : wpAny (model prog w) A (call (.builtin "sum") [.ref l]) Q E s := by
  refine call_sum_walkG (it_tup hl fun s₂ e st hfp hlI => ?_)
  subst e
  refine ⟨_, _, _, _, _, _, numAt xs, rfl, Walks.tuple (A := A.in1) hh _ l hlI (intItems xs), st, hfp, (fun _ _ => intItems_at), fun h' tk t' hk => ?_⟩
  have := h h' tk t' (old_tup hk)
  simpa [intItems] using this
theorem min_tup0 {Q : Value → Shared → Prop} (hh : A.handled = none) (hl : s.heap.IsTuple l (intItems xs)) (hne : 0 < xs.size)
    (h : ∀ v h' tk, (intItems xs)[argBest (fun i j => decide (numAt xs i < numAt xs j)) (xs.size - 1)]? = some v → (∀ b o, s.heap.get? b = some o → h'.get? b = some o) → Q v { s with heap := h', toks := tk }) :
    wpAny (model prog w) A (call (.builtin "min") [.ref l]) Q E s := by
  refine call_min_walk (it_tup hl fun s₂ e st hfp hlI => ?_)
  subst e
  refine ⟨_, _, _, _, _, _, _, rfl, Walks.tuple (A := A.in1) hh _ l hlI (intItems xs), st, hfp, by simpa [intItems] using hne, CmpOf.ints_lt (numAt xs) (fun _ _ => intItems_at), fun v h' tk hP hk => ?_⟩
  exact h v h' tk (by simpa [intItems] using hP) (old_tup hk)
theorem max_tup0 {Q : Value → Shared → Prop} (hh : A.handled = none) (hl : s.heap.IsTuple l (intItems xs)) (hne : 0 < xs.size)
    (h : ∀ v h' tk, (intItems xs)[argBest (fun i j => decide (numAt xs i > numAt xs j)) (xs.size - 1)]? = some v → (∀ b o, s.heap.get? b = some o → h'.get? b = some o) → Q v { s with heap := h', toks := tk }) :
    wpAny (model prog w) A (call (.builtin "max") [.ref l]) Q E s := by
  refine call_max_walk (it_tup hl fun s₂ e st hfp hlI => ?_)
  subst e
  refine ⟨_, _, _, _, _, _, _, rfl, Walks.tuple (A := A.in1) hh _ l hlI (intItems xs), st, hfp, by simpa [intItems] using hne, CmpOf.ints_gt (numAt xs) (fun _ _ => intItems_at), fun v h' tk hP hk => ?_⟩
  exact h v h' tk (by simpa [intItems] using hP) (old_tup hk)
end
section
variable {prog : Program} {w : World} {A : Around} {E : Value → Shared → Prop} {s : Shared} {l : Addr} {vals : List Value} {ks : List Int} {Q : Value → Shared → Prop}
theorem sum_tup (hh : A.handled = none) (hl : s.heap.IsTuple l vals.toArray) (hi : IntsAre vals ks)
    (h : ∀ h' tk t', (∀ b o, s.heap.get? b = some o → h'.get? b = some o) → Q (.int ks.sum t') { s with heap := h', toks := tk }) : wpAny (model prog w) A (call (.builtin "sum") [.ref l]) Q E s := by
  obtain ⟨zs, e⟩ := hi.allInts.items
  have hnum : numsOf (intItems zs).toList = ks := by rw [← e]; exact hi.numsOf
  rw [nums_intItems] at hnum
  rw [e] at hl
  refine sum_tup0 hh hl fun h' tk t' hk => ?_
  have := h h' tk t' hk
  rw [preSum_eq, List.take_of_length_le (by simp), hnum]; exact this
theorem max_tup (hh : A.handled = none) (hl : s.heap.IsTuple l vals.toArray) (hi : IntsAre vals ks) (hne : 0 < ks.length)
    (h : ∀ h' tk M t', (∀ b o, s.heap.get? b = some o → h'.get? b = some o) → M ∈ ks → (∀ a, a ∈ ks → a ≤ M) → Q (.int M t') { s with heap := h', toks := tk }) : wpAny (model prog w) A (call (.builtin "max") [.ref l]) Q E s := by
  obtain ⟨zs, e⟩ := hi.allInts.items
  have hnum : numsOf (intItems zs).toList = ks := by rw [← e]; exact hi.numsOf
  rw [nums_intItems] at hnum
  subst hnum
  rw [e] at hl
  have hpos : 0 < zs.size := by simpa using hne
  refine max_tup0 hh hl hpos fun v h' tk hv hk => ?_
  obtain ⟨t, rfl⟩ := intItems_at hv
  obtain ⟨k1, k2⟩ := argBest_gt (numAt zs) (zs.size - 1)
  refine h h' tk _ t hk ?_ fun a hmem => ?_
  · rw [numAt_eq]; exact PySem.getD_mem (by rw [List.length_map, Array.length_toList]; omega)
  · obtain ⟨j, jlt, rfl⟩ := mem_getD hmem
    rw [List.length_map, Array.length_toList] at jlt
    rw [← numAt_eq]; exact k2 j (by omega)
theorem min_tup (hh : A.handled = none) (hl : s.heap.IsTuple l vals.toArray) (hi : IntsAre vals ks) (hne : 0 < ks.length)
    (h : ∀ h' tk M t', (∀ b o, s.heap.get? b = some o → h'.get? b = some o) → M ∈ ks → (∀ a, a ∈ ks → M ≤ a) → Q (.int M t') { s with heap := h', toks := tk }) : wpAny (model prog w) A (call (.builtin "min") [.ref l]) Q E s := by
  obtain ⟨zs, e⟩ := hi.allInts.items
  have hnum : numsOf (intItems zs).toList = ks := by rw [← e]; exact hi.numsOf
  rw [nums_intItems] at hnum
  subst hnum
  rw [e] at hl
  have hpos : 0 < zs.size := by simpa using hne
  refine min_tup0 hh hl hpos fun v h' tk hv hk => ?_
  obtain ⟨t, rfl⟩ := intItems_at hv
  obtain ⟨k1, k2⟩ := argBest_lt (numAt zs) (zs.size - 1)
  refine h h' tk _ t hk ?_ fun a hmem => ?_
  · rw [numAt_eq]; exact PySem.getD_mem (by rw [List.length_map, Array.length_toList]; omega)
  · obtain ⟨j, jlt, rfl⟩ := mem_getD hmem
    rw [List.length_map, Array.length_toList] at jlt
    rw [← numAt_eq]; exact k2 j (by omega)
end
section
variable {X : Cx}
def rSumT (K : PySem.W.Frag) : List V → Hp → VK → Prop := fun vs H Q => ∃ (a : Addr) (ns : List Int), vs = [V.ref a] ∧ SqT K H a (ns.map V.int) ∧ Q (.int ns.sum) H
def rMaxT (K : PySem.W.Frag) : List V → Hp → VK → Prop := fun vs H Q => ∃ (a : Addr) (ns : List Int), vs = [V.ref a] ∧ SqT K H a (ns.map V.int) ∧ 0 < ns.length ∧ ∀ m, m ∈ ns → (∀ y, y ∈ ns → y ≤ m) → Q (.int m) H
def rMinT (K : PySem.W.Frag) : List V → Hp → VK → Prop := fun vs H Q => ∃ (a : Addr) (ns : List Int), vs = [V.ref a] ∧ SqT K H a (ns.map V.int) ∧ 0 < ns.length ∧ ∀ m, m ∈ ns → (∀ y, y ∈ ns → m ≤ y) → Q (.int m) H
theorem cr_sumT (hc : X.calm = true) : CallR X (.builtin "sum") (rSumT X.K) := by
  intro pins s σ H vs us Q I r h
  obtain ⟨a, ns, rfl, hs, q⟩ := h
  obtain ⟨its, rv, hl, _⟩ := I.tuple hs
  rw [Vals.ref1 r]
  exact sum_tup (I.ok.hd hc) hl rv.ints fun h' tk t' hk => ⟨.int _, H, I.kept hk, ⟨_, rfl⟩, q⟩
theorem cr_maxT (hc : X.calm = true) : CallR X (.builtin "max") (rMaxT X.K) := by
  intro pins s σ H vs us Q I r h
  obtain ⟨a, ns, rfl, hs, hne, q⟩ := h
  obtain ⟨its, rv, hl, _⟩ := I.tuple hs
  rw [Vals.ref1 r]
  exact max_tup (I.ok.hd hc) hl rv.ints hne fun h' tk m t' hk h1 h2 => ⟨.int _, H, I.kept hk, ⟨_, rfl⟩, q m h1 h2⟩
theorem cr_minT (hc : X.calm = true) : CallR X (.builtin "min") (rMinT X.K) := by
  intro pins s σ H vs us Q I r h
  obtain ⟨a, ns, rfl, hs, hne, q⟩ := h
  obtain ⟨its, rv, hl, _⟩ := I.tuple hs
  rw [Vals.ref1 r]
  exact min_tup (I.ok.hd hc) hl rv.ints hne fun h' tk m t' hk h1 h2 => ⟨.int _, H, I.kept hk, ⟨_, rfl⟩, q m h1 h2⟩
theorem callR_or {f : Value} {r r' : List V → Hp → VK → Prop} (h : CallR X f r) (h' : CallR X f r') : CallR X f (fun vs H Q => r vs H Q ∨ r' vs H Q) := fun pins s σ H vs us Q I rv z => by
  rcases z with z | z
  · exact h pins s σ H vs us Q I rv z
  · exact h' pins s σ H vs us Q I rv z
end
end MS
namespace MS
open PySem PySem.Spec PyProof.Rows L2 SrtO Srt
section
variable {prog : Program} {w : World} {A : Around} {E : Value → Shared → Prop} {s : Shared}
/-! ### sorted of a tuple of ints -/
theorem sorted_tupI {l : Addr} {vs : List Value} {ns : List Int} {Q : Value → Shared → Prop} (hl : s.heap.IsTuple l vs.toArray) (hI : IntsAre vs ns) (hz : vs.length ≤ sizeLine)
    (h : ∀ (out : List Value) (h1 h2 : Heap) (a : Addr), Srtd ltIv out → Stb ltIv out vs → (∀ b o, s.heap.get? b = some o → h1.get? b = some o) → h1.objs.size = a → (∀ b o, h1.get? b = some o → h2.get? b = some o) → (∃ e, h2.get? a = some (seqObj "list" out.toArray e)) → Q (.ref a) { s with heap := h2 }) :
    wpAny (model prog w) A (call (.builtin "sorted") [.ref l]) Q E s := by
  obtain ⟨o, ho, hc, n, hd⟩ := id hl
  refine Calls.call_function_entry kind_sorted plain_sorted entry_sorted (args_sorted1 _) ?_
  unfold Builtin.«sorted»
  refine wpAny_bind (m := checkCount "sorted" 1 1 _) (wpAny_pure ?_)
  refine wpAny_bind (wpAny_collect_seq l (.inr rfl) ho hc hd (fun h1 k1 => ?_) (by rw [List.size_toArray]; exact hz))
  have e0 : vs.toArray.toList = vs := by simp
  rw [e0]
  refine wpAny_bind (wpAny_newList ?_ hz)
  have hoL : (h1.push (seqObj "list" vs.toArray 0)).get? h1.objs.size = some (seqObj "list" vs.toArray 0) := Heap.get?_push_size _ rfl
  refine wpAny_bind (wpAny_holding (wpAny_call_entry slot_list_sort ⟨_, hoL, rfl⟩ entry_list_sort (list_sort_ord swo_int hoL hz (fun h2 => ints_sortable hI h2) fun out hs hb => ⟨_, rfl, ?_⟩) (args_list_sort _)))
  refine wpAny_pure ⟨_, rfl, h out h1 _ _ hs hb k1 rfl (fun b o q => ?_) (sortedHeap_at (n := 0) hoL)⟩
  have hlt : b < h1.objs.size := Heap.lt_size q
  rw [sortedHeap_old (Nat.ne_of_lt hlt) (by rw [size_push']; exact Nat.lt_succ_of_lt hlt)]
  exact Heap.get?_push_of_some _ q
/-! ### t[::-1] -/
theorem sliceApplied_back {sl : Addr} {vl vu vs : Value} {n : Nat} {Q : Int × Int × Nat → Shared → Prop} (hs : s.heap.IsSliceOf sl vl vu vs) (pl : IsPart vl none) (pu : IsPart vu none) (ps : IsPart vs (some (-1)))
    (h : Q ((n : Int) - 1, -1, n) s) : wpAny (model prog w) A (Builtin.Slice.sliceApplied (.ref sl) (pure (n : Int))) Q E s := by
  obtain ⟨os, hos, hcs, hds⟩ := id hs
  unfold Builtin.Slice.sliceApplied Builtin.Slice.sliceFields
  refine wpAny_bind (wpAny_bind (wpAny_field hos hds (x := vl) rfl (wpAny_bind (wpAny_field hos hds (x := vu) rfl (wpAny_bind (wpAny_field hos hds (x := vs) rfl (wpAny_pure ?_)))))))
  refine wpAny_bind (HT.slicePart_ ps ?_)
  show wpAny _ _ (if ((-1 : Int) == 0) = true then _ else _) _ _ s
  rw [if_neg (by decide)]
  refine wpAny_bind (HT.slicePart_ pl (wpAny_bind (HT.slicePart_ pu (wpAny_bind (wpAny_pure ?_)))))
  show wpAny _ _ (pure ((n : Int) - 1, (-1 : Int), Builtin.Slice.slicePlaces ((n : Int) - 1) (-1) (-1))) _ _ s
  have e : Builtin.Slice.slicePlaces ((n : Int) - 1) (-1) (-1) = n := by
    unfold Builtin.Slice.slicePlaces
    have h1 : ¬ ((-1 : Int) > 0) := by omega
    simp only [h1, if_false]
    split
    · have : ((n : Int) - 1 - -1 - 1) / (- -1) + 1 = n := by
        rw [show (- -1 : Int) = 1 by decide, Int.ediv_one]; omega
      rw [this]; simp
    · omega
  rw [e]
  exact wpAny_pure h
theorem pick_back (xs : Array Value) : ((List.range xs.size).filterMap fun (k : Nat) => xs[((xs.size : Int) - 1 + (k : Int) * -1).toNat]?).toArray = xs.toList.reverse.toArray := by
  have e : (List.range xs.size).filterMap (fun (k : Nat) => xs[((xs.size : Int) - 1 + (k : Int) * -1).toNat]?) = ((List.range xs.size).map fun k => xs.size - 1 - k).filterMap fun j => xs[j]? := by
    rw [List.filterMap_map]
    have go : ∀ l : List Nat, (∀ k ∈ l, k < xs.size) → l.filterMap (fun (k : Nat) => xs[((xs.size : Int) - 1 + (k : Int) * -1).toNat]?) = l.filterMap ((fun j => xs[j]?) ∘ fun k => xs.size - 1 - k) := by
      intro l
      induction l with
      | nil => intro _; rfl
      | cons k l ih =>
        intro hl
        have hk := hl k (by simp)
        have e : ((xs.size : Int) - 1 + (k : Int) * -1).toNat = xs.size - 1 - k := by omega
        rw [List.filterMap_cons, List.filterMap_cons, ih fun k hk => hl k (by simp [hk]), e]
        rfl
    exact go _ fun k hk => List.mem_range.mp hk
  rw [e, PySem.W.krv_range, List.filterMap_reverse, PySem.W.krv_all]
theorem getItem_tuple_back {t sl : Addr} {items : Array Value} {vl vu vs : Value} {Q : Value → Shared → Prop} (ht : IsTup s.heap t items) (hs : s.heap.IsSliceOf sl vl vu vs) (pl : IsPart vl none) (pu : IsPart vu none) (ps : IsPart vs (some (-1)))
    (h : Q (.ref s.heap.objs.size) { s with heap := s.heap.push { cls := .type "tuple", data := .seq items.toList.reverse.toArray } })
    (hsz : items.size ≤ sizeLine) : wpAny (model prog w) A (getItem (.ref t) (.ref sl)) Q E s := by
  have htake : sizeOk (.seq items.toList.reverse.toArray) := by
    show items.toList.reverse.toArray.size ≤ sizeLine
    rw [List.size_toArray, List.length_reverse, Array.length_toList]
    omega
  obtain ⟨os, hos, hcs, hds⟩ := id hs
  have hTs : s.TypeIs (.ref sl) "slice" := ⟨os, hos, hcs⟩
  unfold getItem
  try with_reducible refine wpAny_holding ?_
  first | refine wpAny_bind (wpAny_pure ?_) | skip
  refine wpAny_bind (wpAny_sequenceKey ht.typeIs (by decide) ?_)
  refine wpAny_bind (wpAny_callSpecial?_slot (name := Str.ofString "__getitem__") ht.typeIs PyProof.Rows.slot_tuple_getitem
    (wpAny_call_entry PyProof.Rows.slot_tuple_getitem ht.typeIs entry_tuple_getitem ?_ (args_tuple_getitem _ _)))
  show wpAny _ _ (Builtin.Tuple.tupleItemsOf (.ref t) >>= _) _ _ s
  refine wpAny_bind (tupleItemsOf_ ht ?_)
  refine wpAny_bind (wpAny_typeOf hTs ?_)
  rw [if_pos (by decide)]
  refine wpAny_bind (sliceApplied_back hs pl pu ps ?_)
  show wpAny _ _ (if (((items.size : Int) - 1) == 0 && (-1 : Int) == 1 && items.size == items.size) = true then _ else _) _ _ s
  rw [if_neg (by simp), pick_back]
  first
    | exact wpAny_bind (m := Builtin.Tuple.tupleExact _) (wpAny_newObj_type (wpAny_pure ⟨_, rfl, wpAny_pure h⟩) htake)
    | exact wpAny_bind (m := Builtin.Tuple.tupleExact _) (wpAny_newObj_type (wpAny_bind (wpAny_pure (wpAny_pure ⟨_, rfl, wpAny_pure h⟩))) htake)
    | exact wpAny_bind (wpAny_bind (m := Builtin.Tuple.tupleExact _) (wpAny_newObj_type (wpAny_pure (wpAny_pure ⟨_, rfl, wpAny_pure h⟩)) htake))
    | exact wpAny_bind (wpAny_bind (m := Builtin.Tuple.tupleExact _) (wpAny_newObj_type (wpAny_pure ⟨_, rfl, wpAny_pure h⟩) htake))
end
/-- sorted(t), ints -/
def rSortedT (K : PySem.W.Frag) : List V → Hp → VK → Prop := fun vs H Q => ∃ (a : Addr) (ns : List Int), vs = [V.ref a] ∧ SqT K H a (ns.map V.int) ∧
  ∀ (ns' : List Int) (p : Addr), ns'.Perm ns → ns'.Pairwise (· ≤ ·) → H p = none → Q (.ref p) (upd H p (.lst (ns'.map V.int)))
theorem cr_sortedT {X : Cx} : CallR X (.builtin "sorted") (rSortedT X.K) := by
  intro pins s σ H vs us Q I r h
  obtain ⟨a, ns, rfl, hs, q⟩ := h
  obtain ⟨its, rv, hl, hz⟩ := I.tuple hs
  rw [Vals.ref1 r]
  have hi := intsAre_of rv
  refine sorted_tupI hl hi (by rw [← rv.length]; exact hz) fun out h1 h2 p s1 s2 k1 hp k2 hat => ?_
  obtain ⟨m1, m2, m3⟩ := ints_out hi s1 s2
  obtain ⟨ep, he'⟩ := hat
  have hlen : ((out.map SrtO.iv).map V.int).length ≤ sizeLine := by
    rw [List.length_map, m2.length_eq]
    rw [List.length_map] at hz
    exact hz
  have J : Inv X pins σ H { s with heap := h1 } := I.kept (t' := s.toks) k1
  exact ⟨.ref p, upd H p (.lst ((out.map SrtO.iv).map V.int)), J.laid (t' := s.toks) k2 (Nat.le_of_eq hp) ⟨hlen, out, ep, vals_of_ints m1, he'⟩, rfl, q _ _ m2 m3 (J.hok.fresh (Nat.le_of_eq hp))⟩
/-- x[::-1], a list or a tuple -/
def tRevA (K : PySem.W.Frag) (te : TE) : TE := fun σ H Q => te σ H fun x H1 => ∃ a xs, x = .ref a ∧ ((SqL K H1 a xs ∧ ∀ p, H1 p = none → Q (.ref p) (upd H1 p (.lst xs.reverse))) ∨ (SqT K H1 a xs ∧ ∀ p, H1 p = none → Q (.ref p) (upd H1 p (.tup xs.reverse))))
theorem pe_revA {X : Cx} {pos : Pos} {e : Expr} {te : TE} {k : Nat} {p1 p2 p3 : Pos} (he : PE X e te) : PE X (.Subscript e (.Slice none none (some (.UnaryOp .USub (.Constant (.int 1) k p1) p2)) p3) pos) (tRevA X.K te) := by
  refine ⟨fun pins s σ H Q I h => ?_⟩
  refine Subscript_ (thn (he.run pins s σ H _ I h) fun v s1 ⟨x, H1, I1, r1, q1⟩ => ?_)
  obtain ⟨a, xs, ex, q⟩ := q1
  subst ex
  cases r1
  have hst : PO X (some (.UnaryOp .USub (.Constant (.int 1) k p1) p2)) (tPart (tUn (rU fun i => .int (-i)) (tC (.int 1)))) := po_some (pe_un un_neg pe_int)
  refine wpAny_Slice (thn (po_none.run pins s1 σ H1 (fun o H2 => o = none ∧ H2 = H1) I1 ⟨rfl, rfl⟩) fun vl s2 ⟨l, H2, I2, pl, el, e2⟩ => ?_)
  subst el e2
  refine thn (po_none.run pins s2 σ H2 (fun o H3 => o = none ∧ H3 = H2) I2 ⟨rfl, rfl⟩) fun vu s3 ⟨u, H3, I3, pu, eu, e3⟩ => ?_
  subst eu e3
  refine thn (hst.run pins s3 σ H3 (fun o H4 => o = some (-1) ∧ H4 = H3) I3 ⟨1, rfl, -1, rfl, rfl, rfl⟩) fun vs s4 ⟨o, H4, I4, ps, eo, e4⟩ => ?_
  subst eo e4
  have I5 : Inv X pins σ H4 { s4 with heap := s4.heap.push { cls := .type "slice", data := .fields #[vl, vu, vs] } } := I4.kept (t' := s4.toks) fun b ob q => Heap.get?_push_of_some _ q
  show wpAny (model X.prog X.w) X.A (subscriptTail e (.Slice none none (some (.UnaryOp .USub (.Constant (.int 1) k p1) p2)) p3) (.ref a) (.ref s4.heap.objs.size)) (EP X pins σ Q) X.xe { s4 with heap := s4.heap.push { cls := .type "slice", data := .fields #[vl, vu, vs] } }
  rcases q with ⟨hx, q⟩ | ⟨hx, q⟩
  · obtain ⟨its, r, ht, hz⟩ := I5.list hx
    have hlen := r.length
    refine tail_any (ops := [.ref a, .ref s4.heap.objs.size]) ht.isList.typeIs (PySem.slot_list_getitem.lookup) ?_ (by with_unfolding_all rfl)
    refine wpAny_getItem_list_slice ht.isList (Heap.IsSliceOf.new _ vl vu vs) pl pu ps (by decide) ?_ (by rw [List.size_toArray]; omega)
    rw [PySem.W.krv_pick]
    refine ⟨.ref _, _, I5.laid (t' := s4.toks) (o := .lst xs.reverse) (fun b ob q => Heap.get?_push_of_some _ q) (Nat.le_refl _) ?_, rfl, q _ (I5.hok.fresh (Nat.le_refl _))⟩
    exact ⟨by rw [List.length_reverse]; exact hz, _, 0, r.reverse, Heap.get?_push_size _ rfl⟩
  · obtain ⟨its, r, ht, hz⟩ := I5.tuple hx
    have hlen := r.length
    refine tail_any (ops := [.ref a, .ref s4.heap.objs.size]) ht.typeIs (PyProof.Rows.slot_tuple_getitem.lookup) ?_ (by with_unfolding_all rfl)
    refine getItem_tuple_back ht (Heap.IsSliceOf.new _ vl vu vs) pl pu ps ?_ (by rw [List.size_toArray]; omega)
    refine ⟨.ref _, _, I5.laid (t' := s4.toks) (o := .tup xs.reverse) (fun b ob q => Heap.get?_push_of_some _ q) (Nat.le_refl _) ?_, rfl, q _ (I5.hok.fresh (Nat.le_refl _))⟩
    exact ⟨by rw [List.length_reverse]; exact hz, _, r.reverse, IsTup.new _ _⟩
end MS
namespace MS
open PySem PySem.Spec PyProof.Rows L2
section
variable {X : Cx}
theorem scal_flat {K : PySem.W.Frag} {F : Addr → Prop} {H : Hp} : ∀ (ds : List D) (xs : List V) (i : Int), ds.all isScal = true → DvA K F H ds xs → xs.all flatV = true ∧ inV (.int i) xs = ds.any fun z => PyData.eqv z (.int i)
  | [], xs, i, _, h => by rw [DvA_nil] at h; subst h; simp [inV]
  | d :: ds, xs, i, s, h => by
    obtain ⟨x, xr, rfl, h1, h2⟩ := DvA_cons.mp h
    rw [List.all_cons, Bool.and_eq_true] at s
    obtain ⟨r1, r2⟩ := scal_flat ds xr i s.2 h2
    unfold inV at r2 ⊢
    rw [List.all_cons, List.any_cons, List.any_cons, r2, r1, Bool.and_true]
    cases d with
    | none => simp only [Dv] at h1; subst h1; simp [flatV, eqV, PyData.eqv]
    | bool b => simp only [Dv] at h1; subst h1; cases b <;> simp [flatV, eqV, PyData.eqv]
    | int j => simp only [Dv] at h1; subst h1; simp [flatV, eqV, PyData.eqv]
    | str z => simp only [Dv] at h1; subst h1; simp [flatV, eqV, PyData.eqv]
    | _ => exact absurd s.1 (by simp [isScal])
theorem b_in (hu : X.A.units + 65 < cLine) : BinOk X (compareOp .In) (pIn false) := by
  refine ⟨_, OpR.or (op_inD hu) op_in_seq, fun F H e1 e2 v1 v2 g1 g2 Q o1 o2 q => ?_⟩
  obtain ⟨p1, d1⟩ := e1
  obtain ⟨p2, d2⟩ := e2
  unfold pIn at q
  split at q
  · rename_i a p xs e
    simp only [List.cons.injEq, Ety.mk.injEq] at e
    obtain ⟨rfl, ⟨rfl, rfl⟩, _⟩ := e
    obtain ⟨s1, s2, q⟩ := q
    exact .inl ⟨_, _, Ow.dp _ _ _ _ (SeqAt.canLay_of_shaped s1) o1, Ow.dp _ _ _ _ (SeqAt.canLay_of_shaped s2) o2, s1, s2, res_sh dv_bl (by simpa using q)⟩
  · rename_i p i p' xs e
    simp only [List.cons.injEq, Ety.mk.injEq] at e
    obtain ⟨⟨_, rfl⟩, ⟨_, rfl⟩, _⟩ := e
    obtain ⟨s, q⟩ := q
    obtain ⟨a, ys, rfl, h1, h2⟩ := o2.tup
    obtain ⟨r1, r2⟩ := scal_flat _ _ i s h2
    rw [o1.int]
    refine .inr ⟨a, ys, rfl, .inr h1, rfl, r1, ?_⟩
    rw [r2, if_neg Bool.false_ne_true]
    exact res_sh dv_bl (by simpa using q)
  · exact q.elim
theorem b_notin (hu : X.A.units + 65 < cLine) : BinOk X (compareOp .NotIn) (pIn true) := by
  refine ⟨_, OpR.or (op_notInD hu) op_notIn_seq, fun F H e1 e2 v1 v2 g1 g2 Q o1 o2 q => ?_⟩
  obtain ⟨p1, d1⟩ := e1
  obtain ⟨p2, d2⟩ := e2
  unfold pIn at q
  split at q
  · rename_i a p xs e
    simp only [List.cons.injEq, Ety.mk.injEq] at e
    obtain ⟨rfl, ⟨rfl, rfl⟩, _⟩ := e
    obtain ⟨s1, s2, q⟩ := q
    exact .inl ⟨_, _, Ow.dp _ _ _ _ (SeqAt.canLay_of_shaped s1) o1, Ow.dp _ _ _ _ (SeqAt.canLay_of_shaped s2) o2, s1, s2, res_sh dv_bl (by simpa using q)⟩
  · rename_i p i p' xs e
    simp only [List.cons.injEq, Ety.mk.injEq] at e
    obtain ⟨⟨_, rfl⟩, ⟨_, rfl⟩, _⟩ := e
    obtain ⟨s, q⟩ := q
    obtain ⟨a, ys, rfl, h1, h2⟩ := o2.tup
    obtain ⟨r1, r2⟩ := scal_flat _ _ i s h2
    rw [o1.int]
    refine .inr ⟨a, ys, rfl, .inr h1, rfl, r1, ?_⟩
    rw [r2, if_pos rfl]
    exact res_sh dv_bl (by simpa using q)
  · exact q.elim

/-! ### subscripts -/
theorem atI_some {α β : Type} {xs : List α} {ys : List β} (hl : ys.length = xs.length) {i : Int} {x : α} (h : atI xs i = some x) : ∃ j : Nat, xs[j]? = some x ∧ ∀ y : β, ys[j]? = some y → atI ys i = some y := by
  unfold atI at h ⊢
  rw [hl]
  cases e : ixN xs.length i with
  | none => rw [e] at h; cases h
  | some j =>
    rw [e] at h
    exact ⟨j, h, fun y hy => hy⟩
def IxOk (X : Cx) (pf : List Ety → (Ety → Prop) → Prop) : Prop :=
  ∃ r, IxR X r ∧ ∀ (F : Addr → Prop) (H : Hp) (e1 e2 : Ety) (v1 v2 : V) (g1 g2 : List Addr) (Q : Ety → Prop), Ow X.K F H e1.d e1.p v1 g1 → Ow X.K F H e2.d e2.p v2 g2 → pf [e1, e2] Q → r v1 v2 H (Res X.K F H Q)
theorem x_ix : IxOk X pIx := by
  refine ⟨_, IxR.or ix_list ix_tup, fun F H e1 e2 v1 v2 g1 g2 Q o1 o2 q => ?_⟩
  obtain ⟨p1, d1⟩ := e1
  obtain ⟨p2, d2⟩ := e2
  unfold pIx at q
  split at q
  · rename_i p xs _ i e
    simp only [List.cons.injEq, Ety.mk.injEq] at e
    obtain ⟨⟨rfl, rfl⟩, ⟨_, rfl⟩, _⟩ := e
    obtain ⟨d, hd, he, q⟩ := q
    rw [o2.int]
    obtain ⟨a, ys, g', rfl, h1, h2⟩ := o1.list
    have hl : ys.length = xs.length := by
      rcases h2 with ⟨_, h2⟩ | ⟨_, _, h2⟩
      · exact h2.length
      · exact h2.length
    obtain ⟨j, hj, hy⟩ := atI_some hl hd
    refine .inl ?_
    rcases he with he | he
    · obtain ⟨a2, ys2, e2, h3, h4⟩ := o1.listEl he
      cases e2
      obtain ⟨y, hy1, hy2⟩ := h4.of_get hj
      obtain ⟨j', hj', hy'⟩ := atI_some h4.length hd
      obtain ⟨y', hy1', hy2'⟩ := h4.of_get hj'
      exact ⟨a, ys2, i, y', rfl, rfl, h3, hy' y' hy1', res_sh hy2' q⟩
    · rcases h2 with ⟨_, h2⟩ | ⟨_, _, h2⟩
      · obtain ⟨y, hy1, hy2⟩ := h2.of_get hj
        exact ⟨a, ys, i, y, rfl, rfl, h1, hy y hy1, res_sh hy2 q⟩
      · obtain ⟨y, g2, hy1, hy2⟩ := h2.of_get hj
        exact ⟨a, ys, i, y, rfl, rfl, h1, hy y hy1, res_sh (hy2.scal he) q⟩
  · rename_i xs _ i e
    simp only [List.cons.injEq, Ety.mk.injEq] at e
    obtain ⟨⟨_, rfl⟩, ⟨_, rfl⟩, _⟩ := e
    obtain ⟨d, hd, q⟩ := q
    rw [o2.int]
    obtain ⟨a, ys, rfl, h1, h2⟩ := o1.tup
    obtain ⟨j, hj, hy⟩ := atI_some h2.length hd
    obtain ⟨y, hy1, hy2⟩ := h2.of_get hj
    exact .inr ⟨a, ys, i, y, rfl, rfl, h1, hy y hy1, res_sh hy2 q⟩
  · exact q.elim
theorem x_ixr : IxOk X pIxr := by
  refine ⟨_, ix_list, fun F H e1 e2 v1 v2 g1 g2 Q o1 o2 q => ?_⟩
  obtain ⟨p1, d1⟩ := e1
  obtain ⟨p2, d2⟩ := e2
  unfold pIxr at q
  split at q
  · rename_i xs _ i e
    simp only [List.cons.injEq, Ety.mk.injEq] at e
    obtain ⟨⟨rfl, rfl⟩, ⟨_, rfl⟩, _⟩ := e
    obtain ⟨d, hd, q⟩ := q
    rw [o2.int]
    obtain ⟨a, ys, g', rfl, h1, rfl, h2, _⟩ := Ow_list.mp o1
    obtain ⟨j, hj, hy⟩ := atI_some h2.length hd
    obtain ⟨y, g2', hy1, hy2⟩ := h2.of_get hj
    refine ⟨a, ys, i, y, rfl, rfl, .of h1, hy y hy1, ?_⟩
    obtain ⟨_, r2⟩ := Ow_raw.mp hy2
    cases hs : isScal d with
    | true =>
      rw [if_pos hs] at q
      exact res_sh (hy2.scal hs) q
    | false =>
      rw [if_neg (by rw [hs]; decide)] at q
      exact ⟨⟨.raw, d⟩, [], .refl, Ow_raw.mpr ⟨rfl, r2⟩, by simp, by simp, q⟩
  · exact q.elim
theorem cutV_eq (xs : List V) (lo hi : Option Int) : cutV xs lo hi = cutD xs lo hi := rfl
theorem DvA.cut {K : PySem.W.Frag} {F : Addr → Prop} {H : Hp} {ds : List D} {xs : List V} (h : DvA K F H ds xs) (lo hi : Option Int) : DvA K F H (cutD ds lo hi) (cutD xs lo hi) := by
  unfold cutD
  rw [h.length]
  exact (h.drop _).take _
theorem x_sl : ∃ r, SlR X r ∧ ∀ (F : Addr → Prop) (H : Hp) (e : Ety) (v : V) (g : List Addr) (lo hi : Option Int) (Q : Ety → Prop), Ow X.K F H e.d e.p v g → pSlv e lo hi Q → r v lo hi H (Res X.K F H Q) := by
  refine ⟨_, SlR.or sl_list sl_tupA, fun F H e v g lo hi Q o q => ?_⟩
  obtain ⟨p1, d1⟩ := e
  unfold pSlv at q
  split at q
  · rename_i p xs e
    simp only [Ety.mk.injEq] at e
    obtain ⟨rfl, rfl⟩ := e
    obtain ⟨he, q⟩ := q
    obtain ⟨a, ys, rfl, h1, h2⟩ := o.listEl he
    exact .inl ⟨a, ys, rfl, h1, fun p hp => res_lst hp (h2.cut lo hi) q⟩
  · rename_i xs e
    simp only [Ety.mk.injEq] at e
    obtain ⟨_, rfl⟩ := e
    obtain ⟨a, ys, rfl, h1, h2⟩ := o.tup
    have hl := h2.length
    refine .inr ⟨a, ys, rfl, h1, fun z => res_sh ?_ q, fun _ p hp => res_tup hp (h2.cut lo hi) q⟩
    have e1 : cutD xs lo hi = xs := by
      unfold cutD
      rw [hl] at z
      rw [z.1, z.2]
      simp
    rw [e1]
    simp only [Dv]
    exact ⟨a, ys, rfl, h1, h2⟩
  · exact q.elim

/-! ### built-in calls -/
theorem EtA1 {K : PySem.W.Frag} {F : Addr → Prop} {H : Hp} {e : Ety} {vs : List V} (h : EtA K F H [e] vs) : ∃ v g, vs = [v] ∧ Ow K F H e.d e.p v g := by
  obtain ⟨x, xr, rfl, ⟨g, o⟩, rfl⟩ := h
  exact ⟨x, g, rfl, o⟩
theorem EtA2 {K : PySem.W.Frag} {F : Addr → Prop} {H : Hp} {e1 e2 : Ety} {vs : List V} (h : EtA K F H [e1, e2] vs) : ∃ v1 v2 g1 g2, vs = [v1, v2] ∧ Ow K F H e1.d e1.p v1 g1 ∧ Ow K F H e2.d e2.p v2 g2 := by
  obtain ⟨x, xr, rfl, ⟨g, o⟩, y, yr, rfl, ⟨g2, o2⟩, rfl⟩ := h
  exact ⟨x, y, g, g2, rfl, o, o2⟩
theorem c_len : CallOk X (.builtin "len") pLen := by
  refine ⟨_, call_len_seq, fun F H es vs Q h q => ?_⟩
  unfold pLen at q
  split at q
  · rename_i p xs
    obtain ⟨v, g, rfl, o⟩ := EtA1 h
    obtain ⟨a, ys, g', rfl, h1, h2⟩ := o.list
    have hl : ys.length = xs.length := by
      rcases h2 with ⟨_, h2⟩ | ⟨_, _, h2⟩
      · exact h2.length
      · exact h2.length
    exact ⟨a, ys, rfl, .inl h1, by rw [hl]; exact res_sh dv_int q⟩
  · rename_i p xs
    obtain ⟨v, g, rfl, o⟩ := EtA1 h
    obtain ⟨a, ys, rfl, h1, h2⟩ := o.tup
    exact ⟨a, ys, rfl, .inr h1, by rw [h2.length]; exact res_sh dv_int q⟩
  · exact q.elim
theorem c_tuple : CallOk X (.type "tuple") pTuple := by
  refine ⟨_, call_tuple_of, fun F H es vs Q h q => ?_⟩
  unfold pTuple at q
  split at q
  · rename_i p xs
    obtain ⟨v, g, rfl, o⟩ := EtA1 h
    obtain ⟨he, q⟩ := q
    obtain ⟨a, ys, rfl, h1, h2⟩ := o.listEl he
    exact ⟨a, ys, rfl, .inl ⟨h1, fun l hl => res_tup hl h2 q⟩⟩
  · rename_i p xs
    obtain ⟨v, g, rfl, o⟩ := EtA1 h
    obtain ⟨a, ys, rfl, h1, h2⟩ := o.tup
    refine ⟨a, ys, rfl, .inr ⟨h1, res_sh ?_ q⟩⟩
    simp only [Dv]
    exact ⟨a, ys, rfl, h1, h2⟩
  · exact q.elim
theorem c_list : CallOk X (.type "list") pList := by
  refine ⟨_, call_list_of, fun F H es vs Q h q => ?_⟩
  unfold pList at q
  split at q
  · rename_i p xs
    obtain ⟨v, g, rfl, o⟩ := EtA1 h
    obtain ⟨he, q⟩ := q
    obtain ⟨a, ys, rfl, h1, h2⟩ := o.listEl he
    exact ⟨a, ys, rfl, .inl h1, fun l hl => res_lst hl h2 q⟩
  · rename_i p xs
    obtain ⟨v, g, rfl, o⟩ := EtA1 h
    obtain ⟨a, ys, rfl, h1, h2⟩ := o.tup
    exact ⟨a, ys, rfl, .inr h1, fun l hl => res_lst hl h2 q⟩
  · exact q.elim
theorem c_abs : CallOk X (.builtin "abs") pAbs := by
  refine ⟨_, call_abs, fun F H es vs Q h q => ?_⟩
  unfold pAbs at q
  split at q
  · obtain ⟨v, g, rfl, o⟩ := EtA1 h
    exact ⟨_, by rw [o.int], res_sh dv_int q⟩
  · exact q.elim
theorem c_max2 (hc : X.calm = true) : CallOk X (.builtin "max") pMax2 := by
  refine ⟨_, call_max2 hc, fun F H es vs Q h q => ?_⟩
  unfold pMax2 at q
  split at q
  · obtain ⟨v1, v2, g1, g2, rfl, o1, o2⟩ := EtA2 h
    exact ⟨_, _, by rw [o1.int, o2.int], res_sh dv_int q⟩
  · exact q.elim
theorem c_min2 (hc : X.calm = true) : CallOk X (.builtin "min") pMin2 := by
  refine ⟨_, call_min2 hc, fun F H es vs Q h q => ?_⟩
  unfold pMin2 at q
  split at q
  · obtain ⟨v1, v2, g1, g2, rfl, o1, o2⟩ := EtA2 h
    exact ⟨_, _, by rw [o1.int, o2.int], res_sh dv_int q⟩
  · exact q.elim
theorem c_max1 (hc : X.calm = true) : CallOk X (.builtin "max") pMax1 := by
  refine ⟨_, callR_or (cr_max hc) (cr_maxT hc), fun F H es vs Q h q => ?_⟩
  unfold pMax1 at q
  split at q
  · obtain ⟨v, g, rfl, o⟩ := EtA1 h
    obtain ⟨ns, m, rfl, hm, hle, q⟩ := q
    obtain ⟨a, rfl, hs⟩ := o.lints
    refine .inl ⟨a, ns, rfl, hs, List.length_pos_of_mem hm, fun m' hm' hle' => ?_⟩
    have e : m' = m := by have h1 := hle _ hm'; have h2 := hle' _ hm; omega
    rw [e]
    exact res_sh dv_int q
  · obtain ⟨v, g, rfl, o⟩ := EtA1 h
    obtain ⟨ns, m, rfl, hm, hle, q⟩ := q
    obtain ⟨a, rfl, hs⟩ := o.tints
    refine .inr ⟨a, ns, rfl, hs, List.length_pos_of_mem hm, fun m' hm' hle' => ?_⟩
    have e : m' = m := by have h1 := hle _ hm'; have h2 := hle' _ hm; omega
    rw [e]
    exact res_sh dv_int q
  · exact q.elim
theorem c_min1 (hc : X.calm = true) : CallOk X (.builtin "min") pMin1 := by
  refine ⟨_, callR_or (cr_min hc) (cr_minT hc), fun F H es vs Q h q => ?_⟩
  unfold pMin1 at q
  split at q
  · obtain ⟨v, g, rfl, o⟩ := EtA1 h
    obtain ⟨ns, m, rfl, hm, hle, q⟩ := q
    obtain ⟨a, rfl, hs⟩ := o.lints
    refine .inl ⟨a, ns, rfl, hs, List.length_pos_of_mem hm, fun m' hm' hle' => ?_⟩
    have e : m' = m := by have h1 := hle _ hm'; have h2 := hle' _ hm; omega
    rw [e]
    exact res_sh dv_int q
  · obtain ⟨v, g, rfl, o⟩ := EtA1 h
    obtain ⟨ns, m, rfl, hm, hle, q⟩ := q
    obtain ⟨a, rfl, hs⟩ := o.tints
    refine .inr ⟨a, ns, rfl, hs, List.length_pos_of_mem hm, fun m' hm' hle' => ?_⟩
    have e : m' = m := by have h1 := hle _ hm'; have h2 := hle' _ hm; omega
    rw [e]
    exact res_sh dv_int q
  · exact q.elim
theorem c_sum (hc : X.calm = true) : CallOk X (.builtin "sum") pSum := by
  refine ⟨_, callR_or (cr_sum hc) (cr_sumT hc), fun F H es vs Q h q => ?_⟩
  unfold pSum at q
  split at q
  · obtain ⟨v, g, rfl, o⟩ := EtA1 h
    obtain ⟨ns, rfl, q⟩ := q
    obtain ⟨a, rfl, hs⟩ := o.lints
    exact .inl ⟨a, ns, rfl, hs, res_sh dv_int q⟩
  · obtain ⟨v, g, rfl, o⟩ := EtA1 h
    obtain ⟨ns, rfl, q⟩ := q
    obtain ⟨a, rfl, hs⟩ := o.tints
    exact .inr ⟨a, ns, rfl, hs, res_sh dv_int q⟩
  · exact q.elim
theorem c_all (hc : X.calm = true) : CallOk X (.builtin "all") pAll := by
  refine ⟨_, cr_all hc, fun F H es vs Q h q => ?_⟩
  unfold pAll at q
  split at q
  · obtain ⟨v, g, rfl, o⟩ := EtA1 h
    obtain ⟨bs, rfl, q⟩ := q
    obtain ⟨a, rfl, hs⟩ := o.lbls
    exact ⟨a, bs, rfl, hs, res_sh dv_bl q⟩
  · exact q.elim
theorem c_int : CallOk X (.type "int") pInt := by
  refine ⟨_, call_int1, fun F H es vs Q h q => ?_⟩
  unfold pInt at q
  split at q
  · obtain ⟨v, g, rfl, o⟩ := EtA1 h
    exact .inl ⟨_, by rw [o.int], res_sh dv_int q⟩
  · obtain ⟨v, g, rfl, o⟩ := EtA1 h
    exact .inr ⟨_, by rw [o.bl], res_sh dv_int q⟩
  · exact q.elim
theorem sort_ints {ns ms : List Int} (h : ms.Perm ns) (hp : ms.Pairwise (· ≤ ·)) : ms = ns.mergeSort (· ≤ ·) := by
  have h1 : (ns.mergeSort (· ≤ ·)).Pairwise (fun a b => decide (a ≤ b) = true) := List.pairwise_mergeSort (fun a b c => by simp; omega) (fun a b => by simp; omega) ns
  have h2 : ms.Perm (ns.mergeSort (· ≤ ·)) := h.trans (List.mergeSort_perm ns _).symm
  exact h2.eq_of_pairwise (le := fun a b => a ≤ b) (fun a b _ _ x y => by omega) hp (h1.imp (by simp))
theorem c_sorted : CallOk X (.builtin "sorted") pSorted := by
  refine ⟨_, callR_or cr_sortedI cr_sortedT, fun F H es vs Q h q => ?_⟩
  unfold pSorted at q
  split at q
  · rename_i p xs
    obtain ⟨v, g, rfl, o⟩ := EtA1 h
    obtain ⟨ns, rfl, q⟩ := q
    obtain ⟨a, rfl, hs⟩ := o.lints
    refine .inl ⟨a, ns, rfl, hs, fun ns' p h1 h2 hp => ?_⟩
    rw [sort_ints h1 h2]
    exact res_lst hp (dvA_ints _) q
  · rename_i p xs
    obtain ⟨v, g, rfl, o⟩ := EtA1 h
    obtain ⟨ns, rfl, q⟩ := q
    obtain ⟨a, rfl, hs⟩ := o.tints
    refine .inr ⟨a, ns, rfl, hs, fun ns' p h1 h2 hp => ?_⟩
    rw [sort_ints h1 h2]
    exact res_lst hp (dvA_ints _) q
  · exact q.elim
end
end MS
namespace MS
open PySem

/-! ### which core text stands for which text of the program -/
def visB (sc : Scope) (x : Str) : Bool := match sc.names.lookup x with
  | some .local => true
  | some .cell => true
  | some .free => true
  | _ => false
def locB (sc : Scope) (x : Str) : Bool := match sc.names.lookup x with
  | some .local => true
  | some .cell => true
  | _ => false
def okName (x : Str) : Bool := !(x == ("__debug__" : Str)) && !(x == ("__classdict__" : Str)) && !(x == ("__name__" : Str))
def glB (sc : Scope) (x : Str) : Bool := decide (sc.names.lookup x = some .globalImplicit) && okName x
def nameB (sc : Scope) (N : List Str) (i : Nat) (x : Str) : Bool := decide (N[i]? = some x) && visB sc x && okName x
/-- a built-in name -/
def bltB (sc : Scope) (s : String) (x : Str) : Bool := decide (x = Str.ofString s) && glB sc x

def binOp : Prim → Option Operator
  | .add => some .Add | .sub => some .Sub | .mul => some .Mult | .fdiv => some .FloorDiv | .mod => some .Mod | .pow => some .Pow | .shl => some .LShift
  | _ => none
def cmpOp : Prim → Option CmpOp
  | .eq => some .Eq | .ne => some .NotEq | .lt => some .Lt | .le => some .LtE | .gt => some .Gt | .ge => some .GtE | .isin => some .In | .notin => some .NotIn | .isB => some .Is | .notB => some .IsNot
  | _ => none
def call1 : Prim → Option String
  | .len => some "len" | .tuple => some "tuple" | .list => some "list" | .abs => some "abs" | .max1 => some "max" | .min1 => some "min" | .sum => some "sum" | .sorted => some "sorted" | .int => some "int" | .all => some "all"
  | _ => none
def call2 : Prim → Option String
  | .max2 => some "max" | .min2 => some "min"
  | _ => none
def notSet : Expr → Bool
  | .Set .. => false
  | _ => true
def isSlice : Expr → Bool
  | .Slice .. => true
  | _ => false
/-- the parts of an operation -/
def parts (sc : Scope) (p : Prim) (e : Expr) : Option (List Expr) := match e with
  | .BinOp a op b _ => if binOp p = some op then some [a, b] else none
  | .UnaryOp .USub a _ => if p = .neg then some [a] else none
  | .Compare a [op] [b] _ => match p with
    | .isN => if op = .Is then (match b with | .Constant .none _ _ => some [a] | _ => none) else none
    | .notN => if op = .IsNot then (match b with | .Constant .none _ _ => some [a] | _ => none) else none
    | _ => if cmpOp p = some op && notSet b then some [a, b] else none
  | .Subscript a b _ => match p with
    | .ix => if isSlice b then none else some [a, b]
    | .ixr => if isSlice b then none else some [a, b]
    | .sl true false => match b with | .Slice (some l) none none _ => some [a, l] | _ => none
    | .sl false true => match b with | .Slice none (some h) none _ => some [a, h] | _ => none
    | .sl false false => match b with | .Slice none none none _ => some [a] | _ => none
    | .bk => match b with | .Slice none none (some (.UnaryOp .USub (.Constant (.int 1) _ _) _)) _ => some [a] | _ => none
    | _ => none
  | .Call (.Name x _) [a] [] _ => match p with
    | .lrg1 => if bltB sc "list" x then (match a with | .Call (.Name y _) [b] [] _ => if bltB sc "range" y then some [b] else none | _ => none) else none
    | .lrg2 => if bltB sc "list" x then (match a with | .Call (.Name y _) [b, c] [] _ => if bltB sc "range" y then some [b, c] else none | _ => none) else none
    | .lrgW => if bltB sc "list" x then (match a with | .Call (.Name y _) [b, c] [] _ => if bltB sc "range" y then some [b, c] else none | _ => none) else none
    | .trg1 => if bltB sc "tuple" x then (match a with | .Call (.Name y _) [b] [] _ => if bltB sc "range" y then some [b] else none | _ => none) else none
    | .trg2 => if bltB sc "tuple" x then (match a with | .Call (.Name y _) [b, c] [] _ => if bltB sc "range" y then some [b, c] else none | _ => none) else none
    | _ => match call1 p with
      | some s => if bltB sc s x then some [a] else none
      | none => none
  | .Call (.Name x _) [a, b] [] _ => match p with
    | .isi t => match b with
      | .Name y _ => if ["bool", "int", "tuple", "list", "str"].contains t && bltB sc "isinstance" x && bltB sc t y then some [a] else none
      | _ => none
    | _ => match call2 p with
      | some s => if bltB sc s x then some [a, b] else none
      | none => none
  | _ => none

def ownT (N : List Str) (is : List Nat) : List (Str × Nat) := is.filterMap fun i => (N[i]?).map fun x => (x, i)
def okT1 (sc : Scope) (N : List Str) (i : Nat) : Expr → Bool
  | .Name x _ => decide (N[i]? = some x) && locB sc x
  | _ => false
def okTs (sc : Scope) (N : List Str) : List Nat → List Expr → Bool
  | [], [] => true
  | i :: is, e :: es => okT1 sc N i e && okTs sc N is es
  | _, _ => false
def okT (sc : Scope) (N : List Str) : Tg → Expr → Bool
  | .name i, e => okT1 sc N i e
  | .tup is, .Tuple es _ _ => okTs sc N is es
  | _, _ => false
def notStar : Expr → Bool
  | .Starred .. => false
  | _ => true
def notIf : Expr → Bool
  | .IfExp .. => false
  | _ => true
def isTupT : Expr → Bool
  | .Tuple .. => true
  | _ => false

def okA (sc : Scope) (N : List Str) : A → Expr → Bool
  | .lit n, .Constant (.int m) _ _ => decide (n = m)
  | .lit n, .UnaryOp .USub (.Constant (.int m) _ _) _ => decide (n = -m)
  | .nm i, .Name x _ => nameB sc N i x
  | .add a b, .BinOp x .Add y _ => okA sc N a x && okA sc N b y
  | .sub a b, .BinOp x .Sub y _ => okA sc N a x && okA sc N b y
  | _, _ => false
def okB (sc : Scope) (N : List Str) : B → Expr → Bool
  | .len1 i a, .Call (.Name y _) [.Subscript (.Name x _) k1 _] [] _ => bltB sc "len" y && nameB sc N i x && okA sc N a k1
  | .min a b, .Call (.Name y _) [e1, e2] [] _ => bltB sc "min" y && notStar e1 && notStar e2 && okB sc N a e1 && okB sc N b e2
  | .max a b, .Call (.Name y _) [e1, e2] [] _ => bltB sc "max" y && notStar e1 && notStar e2 && okB sc N a e1 && okB sc N b e2
  | .add a b, .BinOp x .Add y _ => okB sc N a x && okB sc N b y
  | .sub a b, .BinOp x .Sub y _ => okB sc N a x && okB sc N b y
  | .a a, e => okA sc N a e
  | _, _ => false
def notSl : Expr → Bool
  | .Slice .. => false
  | _ => true
/-- which operations ask for no handled exception -/
def hotP : Prim → Bool
  | .max2 | .min2 | .max1 | .min1 | .sum | .all | .lrg1 | .lrg2 | .lrg3 | .lrgW | .trg1 | .trg2 => true
  | _ => false
/-- names of classes -/
def okC (fs : Fs) (sc : Scope) : List String → List Expr → Bool
  | [], [] => true
  | c :: cs, .Name x _ :: es => decide (x = Str.ofString c) && glB sc x && (fs.cls.contains c || c == "ValueError") && okC fs sc cs es
  | _, _ => false
def dOk (fs : Fs) (N : List Str) (sc : Scope) : DO → Expr → (Expr → Bool) → (Expr → Bool) → Bool
  | .newI, .Dict [] [] _, _, _ => true
  | .newO, .Dict [] [] _, _, _ => true
  | .new1, .Dict [some ek] [ev] _, rk, re => rk ek && re ev
  | .din false i, .Compare e [.In] [.Name x _] _, rk, _ => nameB sc N i x && rk e
  | .din true i, .Compare e [.NotIn] [.Name x _] _, rk, _ => nameB sc N i x && rk e
  | .dinO false i, .Compare e [.In] [.Name x _] _, rk, _ => nameB sc N i x && rk e
  | .dinO true i, .Compare e [.NotIn] [.Name x _] _, rk, _ => nameB sc N i x && rk e
  | .dgt i, .Subscript (.Name x _) e _, rk, _ => nameB sc N i x && notSl e && rk e
  | .dgd i, .Call (.Attribute (.Name x _) m ap) [e, .List [] _] [] cp, rk, _ => nameB sc N i x && decide (m = Str.ofString "get") && (ap.endLine == cp.line) && notStar e && rk e
  | .dfrom, .Call (.Name y _) [e1] [] _, rk, _ => fs.calm && bltB sc "dict" y && notStar e1 && rk e1
  | .dcpy i, .Call (.Name y _) [.Name x _] [] _, _, _ => bltB sc "dict" y && nameB sc N i x
  | .dsrt i, .Call (.Name y _) [.Name x _] [] _, _, _ => fs.calm && bltB sc "sorted" y && nameB sc N i x
  | .dpop i, .Call (.Attribute (.Name x _) m ap) [e] [] cp, rk, _ => nameB sc N i x && decide (m = Str.ofString "pop") && (ap.endLine == cp.line) && notStar e && rk e
  | .deq false i j, .Compare (.Name x _) [.Eq] [.Name y _] _, _, _ => nameB sc N i x && nameB sc N j y
  | .deq true i j, .Compare (.Name x _) [.NotEq] [.Name y _] _, _, _ => nameB sc N i x && nameB sc N j y
  | .lset, .Call (.Name y _) [.Call (.Name x _) [e1] [] _] [] _, rk, _ => fs.calm && bltB sc "len" y && bltB sc "set" x && notStar e1 && rk e1
  | .lsetT, .Call (.Name y _) [.Call (.Name x _) [e1] [] _] [] _, rk, _ => fs.calm && bltB sc "len" y && bltB sc "set" x && notStar e1 && rk e1
  | .dlen, .Call (.Name y _) [e1] [] _, rk, _ => bltB sc "len" y && notStar e1 && rk e1
  | _, _, _, _ => false
section
variable (fs : Fs) (N : List Str)
mutual
def okE (sc : Scope) : E → Expr → Bool
  | .var i, .Name x _ => nameB sc N i x
  | .mv i, .Name x _ => nameB sc N i x
  | .int n, .Constant (.int m) _ _ => decide (n = m)
  | .bl b, .Constant (.bool c) _ _ => b == c
  | .non, .Constant .none _ _ => true
  | .str s, .Constant (.str t) _ _ => decide (t = Str.ofString s)
  | .frz c, e => okE sc c e
  | .prim p as, e => (fs.calm || !hotP p) && match parts sc p e with
    | some es => okEs sc as es
    | none => false
  | .tup as, .Tuple es _ _ => okEs sc as es
  | .lst as, .List es _ => okEs sc as es
  | .lstO as, .List es _ => okEs sc as es
  | .lstR as, .List es _ => okEs sc as es
  | .call f as, .Call (.Name x _) (e :: es) [] _ => fs.defs.contains f && decide (x = Str.ofString f) && glB sc x && okEs sc as (e :: es)
  | .and a b, .BoolOp .And (x :: y :: ys) pos => notIf x && notIf y && okE sc a x && okE sc b (if ys.isEmpty then y else .BoolOp .And (y :: ys) pos)
  | .or a b, .BoolOp .Or (x :: y :: ys) pos => notIf x && notIf y && okE sc a x && okE sc b (if ys.isEmpty then y else .BoolOp .Or (y :: ys) pos)
  | .not a, .UnaryOp .Not x _ => notIf x && okE sc a x
  | .ite c a b, .IfExp x y z _ => notIf x && okE sc c x && okE sc a y && okE sc b z
  | .chain o1 o2 a b c, .Compare x [p1, p2] [y, z] _ => decide (cmpOp o1 = some p1) && decide (cmpOp o2 = some p2) && (o1 == .lt || o1 == .le) && (o2 == .lt || o2 == .le) && notSet y && notSet z && okE sc a x && okE sc b y && okE sc c z
  | .comp t it c e, .ListComp elt [⟨tg, iter, ifs, k⟩] scope _ =>
    fs.calm && decide (k = 0) && okI sc it tg iter && L2.blkC N sc scope (ownT N t.slots) && decide ((ownT N t.slots).map (·.2) = t.slots) && okT scope N t tg && (match ifs with
      | [] => (match c with | .bl b => b | _ => false)
      | [x] => notIf x && okE (L2.relS scope sc) c x
      | _ => false) && okE (L2.relS scope sc) e elt
  | .cut a b c, .Subscript x (.Slice (some l) (some h) none _) _ => okEs sc a [x] && okE sc b l && okE sc c h
  | .pop i, .Call (.Attribute (.Name x _) m ap) [] [] cp => nameB sc N i x && decide (m = Str.ofString "pop") && (ap.endLine == cp.line)
  | .popAt i k, .Call (.Attribute (.Name x _) m ap) [e] [] cp => nameB sc N i x && decide (m = Str.ofString "pop") && (ap.endLine == cp.line) && notStar e && okE sc k e
  | .ix2 i a b, .Subscript (.Subscript (.Name x _) k1 _) k2 _ => nameB sc N i x && okA sc N a k1 && okA sc N b k2
  | .zcat i a b, .BinOp (.Subscript (.Name x _) k1 _) .Add (.BinOp (.List [.Constant (.int z) _ _] _) .Mult k2 _) _ => fs.calm && nameB sc N i x && okA sc N a k1 && decide (z = 0) && okB sc N b k2
  | .hcat i a e, .BinOp (.Subscript (.Name x _) k1 _) .Add v _ => nameB sc N i x && okA sc N a k1 && okE sc e v
  | .isx c [d], .Call (.Name x _) [e, .Name y p] [] _ => bltB sc "isinstance" x && notStar e && okE sc c e && okC fs sc [d] [.Name y p]
  | .isx c cs, .Call (.Name x _) [e, .Tuple es _ _] [] _ => decide (cs.length ≤ 100) && bltB sc "isinstance" x && notStar e && okE sc c e && okC fs sc cs es
  | .fld c n, .Attribute (.Subscript x k p) m _ => n == "place" && fs.cls.contains "NoDigit" && decide (m = Str.ofString n) && okE sc c (.Subscript x k p)
  | .fld c n, .Attribute (.Name x p) m _ => n == "place" && fs.cls.contains "NoDigit" && decide (m = Str.ofString n) && okE sc c (.Name x p)
  | .idx i k, .Call (.Attribute (.Name x _) m ap) [e] [] cp => nameB sc N i x && decide (m = Str.ofString "index") && (ap.endLine == cp.line) && notStar e && okE sc k e
  | .callL f i, .Call (.Name x _) [.Name y _] [] _ => fs.defs.contains f && decide (x = Str.ofString f) && glB sc x && nameB sc N i y
  | .fnv f, .Name x _ => fs.defs.contains f && decide (x = Str.ofString f) && glB sc x
  | .callv i gs as, .Call (.Name x _) (e :: es) [] _ => nameB sc N i x && gs.all (fun g => fs.defs.contains g) && okEs sc as (e :: es)
  | .exc c, .Call (.Name x _) [.Constant (.str _) _ _] [] _ => fs.cls.contains c && c != "NoDigit" && decide (x = Str.ofString c) && glB sc x
  | .excF c n e, .Call (.Name x _) [a] [] _ => fs.calm && fs.cls.contains c && c == "NoDigit" && n == "place" && decide (x = Str.ofString c) && glB sc x && notStar a && okE sc e a
  | .zipL a b, .Call (.Name y _) [.Call (.Name x _) [e1, e2] [] _] [] _ => fs.calm && bltB sc "list" y && bltB sc "zip" x && notStar e1 && notStar e2 && okE sc a e1 && okE sc b e2
  | .sset a, .Call (.Name y _) [.Call (.Name x _) [e1] [] _] [] _ => fs.calm && bltB sc "sorted" y && bltB sc "set" x && notStar e1 && okE sc a e1
  | .dnewT, .Dict [] [] _ => true
  | .dop o k v, e => dOk fs N sc o e (fun y => okE sc k y) (fun y => okE sc v y)
  | .tupT as, .Tuple es _ _ => okEs sc as es
  | .kin false i j, .Compare (.Name y _) [.In] [.Name x _] _ => nameB sc N i x && nameB sc N j y
  | .kin true i j, .Compare (.Name y _) [.NotIn] [.Name x _] _ => nameB sc N i x && nameB sc N j y
  | .dix i j, .Subscript (.Name x _) (.Name y _) _ => nameB sc N i x && nameB sc N j y
  | .len1 i a, .Call (.Name y _) [.Subscript (.Name x _) k1 _] [] _ => bltB sc "len" y && nameB sc N i x && okA sc N a k1
  | _, _ => false
def okEs (sc : Scope) : Es → List Expr → Bool
  | .nil, [] => true
  | .cons (.pk i) cs, e :: es => notStar e && (match e with | .Name x _ => nameB sc N i x | _ => false) && okEs sc cs es
  | .cons c cs, e :: es => notStar e && okE sc c e && okEs sc cs es
  | _, _ => false
def okI (sc : Scope) : I → Expr → Expr → Bool
  | .seq c, _, e => okE sc c e && notSet e
  | .rng1 a, _, .Call (.Name x _) [e] [] _ => bltB sc "range" x && notStar e && okE sc a e
  | .rng2 a b, _, .Call (.Name x _) [e1, e2] [] _ => bltB sc "range" x && notStar e1 && notStar e2 && okE sc a e1 && okE sc b e2
  | .rngW a b, _, .Call (.Name x _) [e1, e2] [] _ => bltB sc "range" x && notStar e1 && notStar e2 && okE sc a e1 && okE sc b e2
  | .rng3 a b c, _, .Call (.Name x _) [e1, e2, e3] [] _ => bltB sc "range" x && notStar e1 && notStar e2 && notStar e3 && okE sc a e1 && okE sc b e2 && okE sc c e3
  | .rngS a b c, _, .Call (.Name x _) [e1, e2, e3] [] _ => bltB sc "range" x && notStar e1 && notStar e2 && notStar e3 && okE sc a e1 && okE sc b e2 && okE sc c e3
  | .revR a, _, .Call (.Name y _) [.Call (.Name x _) [e] [] _] [] _ => bltB sc "reversed" y && bltB sc "range" x && notStar e && okE sc a e
  | .rev c, _, .Call (.Name y _) [e] [] _ => bltB sc "reversed" y && notStar e && okE sc c e
  | .enum c, .Tuple _ _ _, .Call (.Name y _) [e] [] _ => bltB sc "enumerate" y && notStar e && okE sc c e
  | .zip a b, .Tuple _ _ _, .Call (.Name y _) [e1, e2] [] _ => bltB sc "zip" y && notStar e1 && notStar e2 && okE sc a e1 && okE sc b e2
  | _, _, _ => false
end
end
end MS
namespace MS
open PySem PySem.Spec PyProof.Rows L2

/-- what the text tells of the class C, named c -/
structure XC (K : PySem.W.Frag) (mg : Str → Option Value) (c : String) (C : Addr) : Prop where
  ns : PySem.W.nsIn K mainGlobals (Str.ofString c) = some (some (.ref C))
  mg : mg (Str.ofString c) = some (.ref C)
  kp : PySem.W.keepIn K (.ref C) = true
  sub : PySem.W.subIn K (.ref C) (.type "BaseException") = some true
  ty : PySem.W.typeIn K (.ref C) = some (.type "type")
  hd : PySem.W.hasDictIn K C = true
  ga : PySem.W.findIn K (.ref C) "__getattribute__" = some (some (.builtin "BaseException.__getattribute__"))
  gg : PySem.W.findIn K (.ref C) "__getattr__" = some none
  cl : PySem.W.findIn K (.ref C) "__class__" = some (some (.builtin "object.__class__"))
  ob : PySem.W.mroIn K C (.type "object") = some true
  ve : PySem.W.kitOne K (.ref C) (.type "ValueError") = some true
/-- .. of all its classes of exceptions -/
structure ExcOk (K : PySem.W.Frag) (mg : Str → Option Value) (cs : List String) : Prop where
  all : ∀ c ∈ cs, c ∈ allC
  one : ∀ c ∈ cs, ∃ C, XC K mg c C
  non : ∀ c ∈ allC, c ∉ cs → ∀ C, PySem.W.nsIn K mainGlobals (Str.ofString c) ≠ some (some (.ref C))
  two : ∀ c ∈ cs, ∀ d ∈ cs, ∀ C D, PySem.W.nsIn K mainGlobals (Str.ofString c) = some (some (.ref C)) → PySem.W.nsIn K mainGlobals (Str.ofString d) = some (some (.ref D)) → PySem.W.exmOne K (.ref C) (.ref D) = some (subX c d) ∧ PySem.W.kitOne K (.ref C) (.ref D) = some (subX c d)
  tx : ∀ c ∈ cs, c ≠ "NoDigit" → ∀ C, PySem.W.nsIn K mainGlobals (Str.ofString c) = some (some (.ref C)) → PySem.W.excIn K C [.type "ValueError", .type "Exception", .type "BaseException", .type "object"] "ValueError.__new__" = true
  pl : ∀ C, PySem.W.nsIn K mainGlobals (Str.ofString "NoDigit") = some (some (.ref C)) → PySem.W.findIn K (.ref C) "place" = some none
  sp : PySem.W.specialIn K (.builtin "object.__class__") "__get__" = some (some (.builtin "getset_descriptor.__get__"))
  tk : PySem.W.takesIn K (.builtin "object.__class__") = some true
theorem ExcOk.mem {K : PySem.W.Frag} {mg : Str → Option Value} {cs : List String} (E : ExcOk K mg cs) {c : String} {C : Addr} (hc : c ∈ allC) (h : PySem.W.nsIn K mainGlobals (Str.ofString c) = some (some (.ref C))) : c ∈ cs := by
  by_cases z : c ∈ cs
  · exact z
  · exact absurd h (E.non c hc z C)
theorem ExcOk.at_ {K : PySem.W.Frag} {mg : Str → Option Value} {cs : List String} (E : ExcOk K mg cs) {c : String} {C : Addr} (hc : c ∈ allC) (h : PySem.W.nsIn K mainGlobals (Str.ofString c) = some (some (.ref C))) : XC K mg c C := by
  obtain ⟨D, x⟩ := E.one c (E.mem hc h)
  have e := x.ns
  rw [h] at e
  cases e
  exact x
/-- an exception as it lies -/
def ExR (K : PySem.W.Frag) (mg : Str → Option Value) (F : Addr → Prop) (H : Hp) (x : Ex) (cls : Value) (d : Option Addr) : Prop :=
  ∃ C, x.cls ∈ allC ∧ PySem.W.nsIn K mainGlobals (Str.ofString x.cls) = some (some (.ref C)) ∧ cls = .ref C ∧ ((x.fs = [] ∧ d = none) ∨ ∃ (i : Int) (dd : Addr), x.cls = "NoDigit" ∧ x.fs = [("place", .int i)] ∧ d = some dd ∧ H dd = some (.xd [(Str.ofString "place", .int i)]))
/-- what is wished of exceptions -/
def XOk (X : Cx) (W : WX) (F : Addr → Prop) (H : Hp) (σ : L2.St) (f : List Addr) (xe : XE) : Prop :=
  ∀ x ρ' F' H' f' cls d, Rep X.K F' H' σ ρ' f' → (∀ a ∈ f', a ∈ f ∨ H a = none) → Chg F H F' H' f → ExR X.K X.mg F' H' x cls d → xe x ρ' → W cls d σ H'
theorem XOk.fin {X : Cx} {W : WX} {F F1 : Addr → Prop} {H H1 : Hp} {σ : L2.St} {f f1 g1 : List Addr} {ρ1 : Rho} {xe : XE} (h : XOk X W F H σ f xe) (a : FinG X.K F H σ f F1 H1 ρ1 f1 g1) : XOk X W F1 H1 σ f1 xe :=
  fun x ρ' F' H' f' cls d r s c e q => h x ρ' F' H' f' cls d r (fun b hb => by
    rcases s b hb with z | z
    · exact a.sub' b z
    · refine .inr ?_
      cases e : H b with
      | none => rfl
      | some o => exact absurd z (a.chg.dom b (by rw [e]; simp))) (a.chg.trans c a.sub') e q
theorem xok_false {X : Cx} {W : WX} {F : Addr → Prop} {H : Hp} {σ : L2.St} {f : List Addr} : XOk X W F H σ f (fun _ _ => False) := fun _ _ _ _ _ _ _ _ _ _ _ q => q.elim

/-- the data handed back by the changed parameters -/
def outE : List Bool → List Ety → List D → Option (List (Option Ety))
  | [], [], [] => some []
  | true :: bs, e :: es, o :: os => (outE bs es os).map (some ⟨e.p, o⟩ :: ·)
  | false :: bs, _ :: es, os => (outE bs es os).map (none :: ·)
  | _, _, _ => none
/-- a def's promise, by its core text -/
def spOf (K : PySem.W.Frag) (mg : Str → Option Value) (n : Nat) (sp : Spec) : Sp := fun vs H Q E => vs.length = n ∧ ∃ (F : Addr → Prop) (es : List Ety) (f : List Addr) (ios : List Bool) (Q0 : Ety → List D → Prop) (xe0 : Ex → Prop),
  Rep K F H (vs.map some) (es.map some) f ∧ sp ios es Q0 xe0 ∧
  (∀ e os es' F' H' f' g v, outE ios es os = some es' → Rep K F' H' (vs.map some) es' f' → (g ++ f').Nodup → (∀ a ∈ g, ¬ F' a) → (∀ a ∈ g ++ f', a ∈ f ∨ H a = none) → Ow K F' H' e.d e.p v g → Chg F H F' H' f → Q0 e os → Q v H') ∧
  (∀ x F' H' cls d, Chg F H F' H' f → (∀ a, F' a → H' a ≠ none) → ExR K mg F' H' x cls d → xe0 x → E cls d H')

/-- __init__ of NoDigit: it keeps the place -/
def spNd (K : PySem.W.Frag) : Sp := fun vs H Q _ => ∃ (a C : Addr) (i : Int), vs = [.ref a, .int i] ∧ OexC K C ∧ PySem.W.findIn K (.ref C) (Str.ofString "place") = some none ∧ H a = some (exo a C none) ∧ 0 ≤ i ∧ i < 400 ∧
  ∀ d, H d = none → d ≠ a → Q .non (upd (upd H d (exd d [(Str.ofString "place", .int i)])) a (exo a C (some d)))
def NdF (P : Program) (w : World) (K : PySem.W.Frag) (mg : Str → Option Value) (base : Heap) : Prop := ∃ (C fI : Addr) (fd : FuncData) (ps : List Str), PySem.W.nsIn K mainGlobals (Str.ofString "NoDigit") = some (some (.ref C)) ∧ OexC K C ∧ PySem.W.findIn K (.ref C) (Str.ofString "place") = some none ∧ PySem.W.findIn K (.ref C) "__init__" = some (some (.ref fI)) ∧
    PySem.W.typeIn K (.ref fI) = some (.type "function") ∧ FnOk P w K mg base CX0 1 fI fd ps (spNd K) ∧ Binds K fd ps []
structure NdOk (X : Cx) : Prop where
  ok : NdF X.prog X.w X.K X.mg X.base
  room : Room 2 X.A
/-- the built-in names that the core knows -/
def blts : List String := ["len", "tuple", "list", "abs", "max", "min", "sum", "sorted", "int", "all", "range", "reversed", "enumerate", "zip", "isinstance", "bool", "str", "dict", "ValueError", "set"]
/-- where a def's body (or a comprehension's block) runs -/
structure Gd (fs : Fs) (Φ : String → Spec) (X : Cx) (W : WX) : Prop where
  calm : fs.calm = true → X.calm = true
  nd : X.N.Nodup
  tk : Takes X W
  hu : X.A.units + 65 < cLine
  blt : ∀ s ∈ blts, X.mg (Str.ofString s) = none
  exc : ExcOk X.K X.mg fs.cls
  ndg : fs.calm = true → "NoDigit" ∈ fs.cls → NdOk X
  fn : ∀ f ∈ fs.defs, ∃ (a : Addr) (fd : FuncData) (k n : Nat) (ps : List Str), X.mg (Str.ofString f) = some (.ref a) ∧ PySem.W.nsIn X.K mainGlobals (Str.ofString f) = some (some (.ref a)) ∧ PySem.W.keepIn X.K (.ref a) = true ∧ Binds X.K fd ps [] ∧ (∀ ios es Q xe, Φ f ios es Q xe → es.length = n) ∧ Room k X.A ∧
    FnOk X.prog X.w X.K X.mg X.base (L2.CX X.prog X.w) k a fd ps (spOf X.K X.mg n (Φ f))

section
variable {Φ : String → Spec} {X : Cx} {W : WX}
theorem PE.imp {e : Expr} {t t' : TE} (h : PE X e t) (i : ∀ σ H Q, t' σ H Q → t σ H Q) : PE X e t' := ⟨fun pins s σ H Q I q => h.run pins s σ H Q I (i _ _ _ q)⟩
theorem PT.imp {e : Expr} {t t' : TT} (h : PT X e t) (i : ∀ σ H Q, t' σ H Q → t σ H Q) : PT X e t' := ⟨fun pins s σ H Q I q => h.run pins s σ H Q I (i _ _ _ q)⟩
theorem PA.imp {es : List Expr} {t t' : TA} (h : PA X es t) (i : ∀ σ H Q, t' σ H Q → t σ H Q) : PA X es t' := ⟨fun pos pins s σ H Q I q => h.run pos pins s σ H Q I (i _ _ _ q)⟩
theorem PI.imp {tg e : Expr} {t t' : TI} (h : PI X tg e t) (i : ∀ σ H R, t' σ H R → t σ H R) : PI X tg e t' := ⟨fun pins s σ H Q I q => h.run pins s σ H Q I (i _ _ _ q)⟩

/-- the readings by the core text -/
def tE (Φ : String → Spec) (X : Cx) (W : WX) (c : E) : TE := fun σ H Q' => ∃ (F : Addr → Prop) (ρ : Rho) (f : List Addr) (Q : QE) (xe : XE), Rep X.K F H σ ρ f ∧ XOk X W F H σ f xe ∧ wpE Φ c ρ Q xe ∧
  ∀ v F' H' e ρ' f' g, FinG X.K F H σ f F' H' ρ' f' g → Ow X.K F' H' e.d e.p v g → Q e ρ' → Q' v H'
def tTst (Φ : String → Spec) (X : Cx) (W : WX) (c : E) : TT := fun σ H Q' => ∃ (F : Addr → Prop) (ρ : Rho) (f : List Addr) (Q : Bool → Rho → Prop) (xe : XE), Rep X.K F H σ ρ f ∧ XOk X W F H σ f xe ∧ wpE Φ c ρ (fun v r => isBool v fun b => Q b r) xe ∧
  ∀ b F' H' ρ' f', FinG X.K F H σ f F' H' ρ' f' [] → Q b ρ' → Q' b H'
/-- an argument -/
def wpA (Φ : String → Spec) : E → Rho → (AV → Rho → Prop) → XE → Prop
  | .pk i, ρ, Q, _ => (ρ.at i).isSome = true ∧ Q (.pk i) ρ
  | c, ρ, Q, X => wpE Φ c ρ (fun v ρ' => Q (.val v) ρ') X
theorem wpEs_cons {c : E} {cs : Es} {ρ : Rho} {Q : List AV → Rho → Prop} {xe : XE} : wpEs Φ (.cons c cs) ρ Q xe = wpA Φ c ρ (fun v ρ1 => wpEs Φ cs ρ1 (fun vs ρ' => Q (v :: vs) ρ') xe) xe := by
  cases c <;> simp only [wpEs, wpA]
def tA (Φ : String → Spec) (X : Cx) (W : WX) (c : E) : TE := fun σ H Q' => ∃ (F : Addr → Prop) (ρ : Rho) (f : List Addr) (Q : AV → Rho → Prop) (xe : XE), Rep X.K F H σ ρ f ∧ XOk X W F H σ f xe ∧ wpA Φ c ρ Q xe ∧
  ∀ v F' H' a ρ' f' g, FinG X.K F H σ f F' H' ρ' f' g → AvOk X.K F' H' σ a v g → Q a ρ' → Q' v H'
def tEs (Φ : String → Spec) (X : Cx) (W : WX) (cs : Es) : TA := fun σ H Q' => ∃ (F : Addr → Prop) (ρ : Rho) (f : List Addr) (Q : List AV → Rho → Prop) (xe : XE), Rep X.K F H σ ρ f ∧ XOk X W F H σ f xe ∧ wpEs Φ cs ρ Q xe ∧
  ∀ vs F' H' as ρ' f' g, FinG X.K F H σ f F' H' ρ' f' g → AvA X.K F' H' σ as vs g → Q as ρ' → Q' vs H'
/-- what stays for a walk -/
structure Keep (K : PySem.W.Frag) (F : Addr → Prop) (H : Hp) (F' : Addr → Prop) (H' : Hp) : Prop where
  mono : ∀ a, F a → F' a
  lst : ∀ a (m : MO), F a → H a = some m.ho → H' a = some m.ho
  tup : ∀ a xs, SqT K H a xs → SqT K H' a xs
  exc : ∀ a o, IsX o → H a = some o → H' a = some o
/-- an iterator that yields just these data -/
def WalkD (K : PySem.W.Frag) (F : Addr → Prop) (H : Hp) (J : It) (ds : List D) : Prop :=
  ∀ (F' : Addr → Prop) (H' : Hp), Keep K F H F' H' → ∀ i : Nat, (i = ds.length → J.stop i H') ∧ ∀ d, ds[i]? = some d → J.go i H' ∧ ∀ x H2, J.yld i H' x H2 → Chg F' H' F' H2 [] ∧ Dv K F' H2 d x
def tIt (Φ : String → Spec) (X : Cx) (W : WX) (it : I) : TI := fun σ H R => ∃ (F : Addr → Prop) (ρ : Rho) (f : List Addr) (Q : List D → Rho → Prop) (xe : XE), Rep X.K F H σ ρ f ∧ XOk X W F H σ f xe ∧ wpI Φ it ρ Q xe ∧
  ∀ J F' H' ds ρ' f', FinG X.K F H σ f F' H' ρ' f' [] → WalkD X.K F' H' J ds → Q ds ρ' → R J H'

/-! ### arguments one by one -/
theorem tA_val {c : E} (hc : ∀ i, c ≠ .pk i) {σ : L2.St} {H : Hp} {Q : VK} (h : tA Φ X W c σ H Q) : tE Φ X W c σ H Q := by
  obtain ⟨F, ρ, f, Q0, xe, r, x, w, k⟩ := h
  have e : wpA Φ c ρ Q0 xe = wpE Φ c ρ (fun v ρ' => Q0 (.val v) ρ') xe := by
    cases c <;> first | rfl | exact absurd rfl (hc _)
  rw [e] at w
  exact ⟨F, ρ, f, _, xe, r, x, w, fun v F' H' e ρ' f' g fin o q => k v F' H' (.val e) ρ' f' g fin o q⟩
/-- one argument, then what follows -/
theorem tA_then {c : E} {σ : L2.St} {H : Hp} {F : Addr → Prop} {ρ : Rho} {f : List Addr} {xe : XE} {Q : AV → Rho → Prop} {Q' : VK} (r : Rep X.K F H σ ρ f) (x : XOk X W F H σ f xe) (w : wpA Φ c ρ Q xe)
    (k : ∀ v F1 H1 a ρ1 f1 g1, FinG X.K F H σ f F1 H1 ρ1 f1 g1 → AvOk X.K F1 H1 σ a v g1 → Q a ρ1 → Q' v H1) : tA Φ X W c σ H Q' := ⟨F, ρ, f, Q, xe, r, x, w, k⟩
end
end MS
namespace MS
open PySem PySem.Spec PyProof.Rows L2

/-! ### the operations' readings, weakened -/
section
variable {X : Cx}
def rCl (r : R2) : R2 := fun x y H Q' => ∃ Q0, r x y H Q0 ∧ ∀ v H', Q0 v H' → Q' v H'
theorem EP.mono {pins : List (Addr × Obj)} {σ : L2.St} {Q0 Q' : VK} (k : ∀ v H', Q0 v H' → Q' v H') {u : Value} {s : Shared} (h : EP X pins σ Q0 u s) : EP X pins σ Q' u s := by
  obtain ⟨v, H', I, r, q⟩ := h
  exact ⟨v, H', I, r, k v H' q⟩
theorem opR_cl {f : Value → Value → Sem Value} {r : R2} (h : OpR X f r) : OpR X f (rCl r) := fun pins s σ H x y v u Q I rx ry ⟨Q0, q, k⟩ =>
  thn (h pins s σ H x y v u Q0 I rx ry q) fun _ _ z => EP.mono k z
theorem ixR_cl {r : R2} (h : IxR X r) : IxR X (rCl r) := by
  intro value slice pins s σ H x y v u Q I rx ry ⟨Q0, q, k⟩ hs
  exact thn (h value slice pins s σ H x y v u Q0 I rx ry q hs) fun _ _ z => EP.mono k z
theorem mtR_cl {id : String} {r : V → List V → Hp → VK → Prop} (h : MtR X id r) : MtR X id (fun x xs H Q' => ∃ Q0, r x xs H Q0 ∧ ∀ v H', Q0 v H' → Q' v H') := by
  intro pins s σ H x xs v us Q I rx rs ⟨Q0, q, k⟩
  exact thn (h pins s σ H x xs v us Q0 I rx rs q) fun _ _ z => EP.mono k z
theorem slR_cl {r : V → Option Int → Option Int → Hp → VK → Prop} (h : SlR X r) : SlR X (fun x lo hi H Q' => ∃ Q0, r x lo hi H Q0 ∧ ∀ v H', Q0 v H' → Q' v H') := by
  intro pins s σ H x v vl vu lo hi sl Q I rx hs pl pu ⟨Q0, q, k⟩
  obtain ⟨T, id, h1, h2, h3⟩ := h pins s σ H x v vl vu lo hi sl Q0 I rx hs pl pu q
  exact ⟨T, id, h1, h2, thn h3 fun _ _ z => EP.mono k z⟩
theorem unR_cl {f : Value → Sem Value} {r : V → Hp → VK → Prop} (h : UnR X f r) : UnR X f (fun x H Q' => ∃ Q0, r x H Q0 ∧ ∀ v H', Q0 v H' → Q' v H') := fun pins s σ H x v Q I rx ⟨Q0, q, k⟩ =>
  thn (h pins s σ H x v Q0 I rx q) fun _ _ z => EP.mono k z
theorem callR_cl {f : Value} {r : List V → Hp → VK → Prop} (h : CallR X f r) : CallR X f (fun x H Q' => ∃ Q0, r x H Q0 ∧ ∀ v H', Q0 v H' → Q' v H') := fun pins s σ H x v Q I rx ⟨Q0, q, k⟩ =>
  thn (h pins s σ H x v Q0 I rx q) fun _ _ z => EP.mono k z
end

section
variable {K : PySem.W.Frag} {F F' F1 F2 : Addr → Prop} {H H' H1 H2 : Hp} {σ : L2.St}
theorem set_self : ∀ {α : Type} {l : List α} {i : Nat} {a : α}, l[i]? = some a → l.set i a = l
  | _, [], i, a, h => by simp at h
  | _, b :: l, 0, a, h => by simp at h; subst h; rfl
  | _, b :: l, i + 1, a, h => by simp only [List.set_cons_succ]; rw [set_self (by simpa using h)]
/-- what was owned is given away, the lists stay where they are -/
theorem chg_give {g A : List Addr} (h : ∀ a ∈ g, a ∈ A ∨ H a = none) : Chg F H (fun a => F a ∨ a ∈ g) H A :=
  ⟨fun _ h => .inl h, fun a q => q.elim .inl fun z => .inr (h a z), fun _ _ e _ => e, fun _ h => h⟩
theorem Rep.give {ρ : Rho} {f g : List Addr} (r : Rep K F H σ ρ f) (h : ∀ a ∈ g, a ∉ f) (hg : ∀ a ∈ g, Mu H a) (ho : ∀ a ∈ g, ¬ F a) : Rep K (fun a => F a ∨ a ∈ g) H σ ρ f :=
  ⟨r.sl.chg (chg_give (A := g) fun a ha => .inl ha) ho hg fun a ha z => h a z ha, r.nd, fun a ha z => z.elim (r.off a ha) fun z => h a z ha, fun a z => z.elim (r.there a) fun z e => by
    obtain ⟨xs, q⟩ := hg a z
    rw [q] at e; cases e⟩
theorem FinG.give {ρ1 : Rho} {f f1 g1 : List Addr} (a : FinG K F H σ f F1 H1 ρ1 f1 g1) : FinG K F H σ f (fun b => F1 b ∨ b ∈ g1) H1 ρ1 f1 [] := by
  have r := a.rep.give a.apart a.lst a.off
  refine ⟨r, by simpa using r.nd, by simp, fun x hx => a.sub' x (by simpa using hx), by simp, a.chg.trans (chg_give (A := g1) fun x hx => .inl hx) fun x hx => a.sub x (List.mem_append_left _ hx)⟩
theorem FinG.trans' {f f1 f2 g1 g2 : List Addr} {ρ1 ρ2 : Rho} (a : FinG K F H σ f F1 H1 ρ1 f1 g1) (b : FinG K F1 H1 σ f1 F2 H2 ρ2 f2 g2) : FinG K F H σ f F2 H2 ρ2 f2 g2 := by
  simpa using a.drop.trans b
/-- a name's datum, shared from now on -/
theorem Rep.share {ρ : Rho} {f : List Addr} {i : Nat} {e : Ety} (r : Rep K F H σ ρ f) (h : ρ.at i = some e) (hc : e.p.clean = true) :
    ∃ v F' f', σ[i]? = some (some v) ∧ FinG K F H σ f F' H (ρ.set i (some ⟨e.p.fz, e.d⟩)) f' [] ∧ Ow K F' H e.d e.p.fz v [] := by
  obtain ⟨o, g, f0, h1, p, ⟨v, rfl, s⟩, r0⟩ := r.out (at_some h)
  have nd := p.nodup_iff.mp r.nd
  have hl := Ow.lst _ _ _ _ s
  have mem : ∀ a ∈ g, a ∈ f := fun a ha => p.mem_iff.mpr (List.mem_append_left _ ha)
  have r1 := r0.give (fun a ha z => (List.nodup_append.mp nd).2.2 a ha a z rfl) hl fun a ha => r.off a (mem a ha)
  have hi : i < ρ.length := by
    have := at_some h
    exact (List.getElem?_eq_some_iff.mp this).1
  have ow : Ow K (fun a => F a ∨ a ∈ g) H e.d e.p.fz v [] := s.givez _ (fun _ z => .inl z) hc fun a ha => .inr ha
  obtain ⟨f', p', r2⟩ := r1.inn (i := i) (o := some v) (e := some ⟨e.p.fz, e.d⟩) (g := []) (by simp [hi]) ⟨v, rfl, ow⟩ (by simpa using r1.nd) (by simp)
  rw [set_idem, set_self h1] at r2
  refine ⟨v, _, f', h1, ⟨r2, by simpa using r2.nd, by simp, fun a ha => ?_, by simp, chg_give fun a ha => .inl (mem a ha)⟩, ow⟩
  exact .inl (p.mem_iff.mpr (List.mem_append_right _ (by simpa using p'.mem_iff.mp (by simpa using ha))))
theorem Rep.move {ρ : Rho} {f : List Addr} {i : Nat} {e : Ety} (r : Rep K F H σ ρ f) (h : ρ.at i = some e) :
    ∃ v f' g, σ[i]? = some (some v) ∧ FinG K F H σ f F H (ρ.set i none) f' g ∧ Ow K F H e.d e.p v g := by
  obtain ⟨o, g, f0, h1, p, ⟨v, rfl, s⟩, r0⟩ := r.out (at_some h)
  have nd := p.nodup_iff.mp r.nd
  refine ⟨v, f0, g, h1, ⟨r0, nd, fun a ha => r.off a (p.mem_iff.mpr (List.mem_append_left _ ha)), fun a ha => .inl (p.mem_iff.mpr ha), Ow.lst _ _ _ _ s, .refl⟩, s⟩
theorem FinG.res {ρ1 : Rho} {f f1 g1 : List Addr} {Q : Ety → Prop} {v : V} (a : FinG K F H σ f F1 H1 ρ1 f1 g1) (h : Res K F1 H1 Q v H2) : ∃ e g, FinG K F H σ f F1 H2 ρ1 f1 g ∧ Ow K F1 H2 e.d e.p v g ∧ Q e := by
  obtain ⟨e, g, b, o, q⟩ := h.fin a.rep
  exact ⟨e, g, a.trans' b, o, q⟩
end

theorem onO_some {α : Type} {o : Option α} {f : α → Prop} (h : onO o f) : ∃ a, o = some a ∧ f a := by
  cases o with
  | none => exact h.elim
  | some a => exact ⟨a, rfl, h⟩
theorem isBool_some {e : Ety} {f : Bool → Prop} (h : isBool e f) : ∃ b, e.d = .bool b ∧ f b := by
  obtain ⟨p, d⟩ := e
  cases d <;> first | exact h.elim | exact ⟨_, rfl, h⟩

section
variable {Φ : String → Spec} {X : Cx} {W : WX}
theorem vis_of {sc : Scope} {x : Str} (h : visB sc x = true) : Vis sc x := by
  unfold visB at h
  split at h
  · exact .inl (by assumption)
  · exact .inr (.inl (by assumption))
  · exact .inr (.inr (by assumption))
  · cases h
theorem loc_of {sc : Scope} {x : Str} (h : locB sc x = true) : Loc sc x := by
  unfold locB at h
  split at h
  · exact .inl (by assumption)
  · exact .inr (by assumption)
  · cases h
theorem okName_of {x : Str} (h : okName x = true) : (x == ("__debug__" : Str)) = false ∧ (x == ("__classdict__" : Str)) = false ∧ x ≠ "__name__" := by
  unfold okName at h
  simp only [Bool.and_eq_true, Bool.not_eq_true'] at h
  exact ⟨h.1.1, h.1.2, fun e => by rw [e] at h; simp at h⟩
theorem nameB_of {sc : Scope} {N : List Str} {i : Nat} {x : Str} (h : nameB sc N i x = true) : N[i]? = some x ∧ Vis sc x ∧ okName x = true := by
  unfold nameB at h
  simp only [Bool.and_eq_true, decide_eq_true_eq] at h
  exact ⟨h.1.1, vis_of h.1.2, h.2⟩
theorem glB_of {x : Str} (h : glB X.env.scope x = true) : Gl X x ∧ okName x = true := by
  unfold glB at h
  simp only [Bool.and_eq_true, decide_eq_true_eq] at h
  exact ⟨h.1, h.2⟩
theorem pe_nm {i : Nat} {x : Str} {pos : Pos} (h : nameB X.env.scope X.N i x = true) : PE X (.Name x pos) (tVar i) := by
  obtain ⟨h1, h2, h3⟩ := nameB_of h
  obtain ⟨h4, h5, _⟩ := okName_of h3
  exact pe_var h1 h2 h4 h5
/-- single sentences -/
theorem s_var {i : Nat} {x : Str} {pos : Pos} (h : nameB X.env.scope X.N i x = true) : PE X (.Name x pos) (tE Φ X W (.var i)) := PE.imp (pe_nm h) fun σ H Q' ⟨F, ρ, f, Q, xe, r, x, w, k⟩ => by
  simp only [wpE] at w
  obtain ⟨e, he, q⟩ := onO_some w
  obtain ⟨hc, q⟩ := q
  obtain ⟨v, F', f', h1, fin, o⟩ := r.share he hc
  exact ⟨v, h1, k v F' H _ _ f' [] fin o q⟩
theorem s_mv {i : Nat} {x : Str} {pos : Pos} (h : nameB X.env.scope X.N i x = true) : PE X (.Name x pos) (tE Φ X W (.mv i)) := PE.imp (pe_nm h) fun σ H Q' ⟨F, ρ, f, Q, xe, r, x, w, k⟩ => by
  simp only [wpE] at w
  obtain ⟨e, he, q⟩ := onO_some w
  obtain ⟨v, f', g, h1, fin, o⟩ := r.move he
  exact ⟨v, h1, k v F H e _ f' g fin o q⟩
theorem s_lit {v : V} {d : D} {c : E} {e : Expr} (h : PE X e (tC v)) (hd : ∀ F H, Dv X.K F H d v) (hw : ∀ ρ Q xe, wpE Φ c ρ Q xe = Q (sh d) ρ) : PE X e (tE Φ X W c) := PE.imp h fun σ H Q' ⟨F, ρ, f, Q, xe, r, x, w, k⟩ => by
  rw [hw] at w
  exact k v F H (sh d) ρ f [] (.refl r) (Ow_sh.mpr ⟨rfl, hd _ _⟩) w
theorem s_frz {c : E} {e : Expr} (h : PE X e (tE Φ X W c)) : PE X e (tE Φ X W (.frz c)) := PE.imp h fun σ H Q' ⟨F, ρ, f, Q, xe, r, x, w, k⟩ => by
  simp only [wpE] at w
  refine ⟨F, ρ, f, _, xe, r, x, w, fun v F' H' e ρ' f' g fin o q => ?_⟩
  by_cases hc : e.p.clean = true
  · exact k v _ H' ⟨e.p.fz, e.d⟩ ρ' f' [] fin.give (o.givez _ (fun _ z => .inl z) hc fun a ha => .inr ha) q
  · have ez : e.p.fz = e.p := by
      obtain ⟨p, d⟩ := e
      cases p with
      | sh => rfl
      | raw => rfl
      | own p => exact if_neg hc
    rw [ez] at q
    exact k v F' H' e ρ' f' g fin o q
/-- two arguments, then an operation -/
theorem two_args {c1 c2 : E} {σ : L2.St} {H : Hp} {r0 : V → V → Hp → Prop} {F : Addr → Prop} {ρ : Rho} {f : List Addr} {xe : XE} {Qs : List AV → Rho → Prop}
    (r : Rep X.K F H σ ρ f) (x : XOk X W F H σ f xe) (w : wpEs Φ (.cons c1 (.cons c2 .nil)) ρ Qs xe)
    (k : ∀ v1 v2 F2 H2 ρ2 f2 as, FinG X.K F H σ f F2 H2 ρ2 f2 [] → Qs as ρ2 → (∀ es, looks ρ2 as = some es → ∃ e1 e2 g1 g2, es = [e1, e2] ∧ Ow X.K F2 H2 e1.d e1.p v1 g1 ∧ Ow X.K F2 H2 e2.d e2.p v2 g2) → r0 v1 v2 H2) :
    tA Φ X W c1 σ H fun v1 H1 => tA Φ X W c2 σ H1 fun v2 H2 => r0 v1 v2 H2 := by
  rw [wpEs_cons] at w
  refine ⟨F, ρ, f, _, xe, r, x, w, fun v1 F1 H1 a1 ρ1 f1 g1 fin1 o1 q1 => ?_⟩
  rw [wpEs_cons] at q1
  refine ⟨F1, ρ1, f1, _, xe, fin1.rep, x.fin fin1, q1, fun v2 F2 H2 a2 ρ2 f2 g2 fin2 o2 q2 => ?_⟩
  simp only [wpEs] at q2
  refine k v1 v2 F2 H2 ρ2 f2 [a1, a2] (fin1.trans' fin2).drop q2 fun es he => ?_
  have o1' : AvOk X.K F2 H2 σ a1 v1 g1 := o1.chg fin2.chg fin1.rep.off fin1.rep.lst fin1.apart
  have all : AvA X.K F2 H2 σ [a1, a2] [v1, v2] (g1 ++ (g2 ++ [])) := ⟨v1, [v2], g1, g2 ++ [], rfl, rfl, o1', v2, [], g2, [], rfl, rfl, o2, rfl, rfl⟩
  have t := looks_ok fin2.rep all he
  match es, t with
  | [e1, e2], t =>
    obtain ⟨_, _, h1, ⟨ga, oa⟩, _, _, h2, ⟨gb, ob⟩, h3⟩ := t
    cases h1; cases h2
    exact ⟨e1, e2, ga, gb, rfl, oa, ob⟩
  | [], t => exact nomatch (show [v1, v2] = [] from t)
  | [e1], t => obtain ⟨_, _, h1, _, h2⟩ := t; cases h1; cases h2
  | e1 :: e2 :: e3 :: r, t =>
    obtain ⟨_, _, h1, _, _, _, h2, _, _, _, h3, _⟩ := t
    cases h1; cases h2; cases h3
theorem one_arg' {c1 : E} {σ : L2.St} {H : Hp} {r0 : V → Hp → Prop} {F : Addr → Prop} {ρ : Rho} {f : List Addr} {xe : XE} {Qs : List AV → Rho → Prop}
    (r : Rep X.K F H σ ρ f) (x : XOk X W F H σ f xe) (w : wpEs Φ (.cons c1 .nil) ρ Qs xe)
    (k : ∀ v1 F2 H2 ρ2 f2 as, FinG X.K F H σ f F2 H2 ρ2 f2 [] → Qs as ρ2 → (∀ es, looks ρ2 as = some es → ∃ e1 g1, es = [e1] ∧ Ow X.K F2 H2 e1.d e1.p v1 g1) → r0 v1 H2) :
    tA Φ X W c1 σ H fun v1 H1 => r0 v1 H1 := by
  rw [wpEs_cons] at w
  refine ⟨F, ρ, f, _, xe, r, x, w, fun v1 F1 H1 a1 ρ1 f1 g1 fin1 o1 q1 => ?_⟩
  simp only [wpEs] at q1
  refine k v1 F1 H1 ρ1 f1 [a1] fin1.drop q1 fun es he => ?_
  have all : AvA X.K F1 H1 σ [a1] [v1] (g1 ++ []) := ⟨v1, [], g1, [], rfl, rfl, o1, rfl, rfl⟩
  have t := looks_ok fin1.rep all he
  match es, t with
  | [e1], t =>
    obtain ⟨_, _, h1, ⟨ga, oa⟩, h3⟩ := t
    cases h1
    exact ⟨e1, ga, rfl, oa⟩
  | [], t => exact nomatch (show [v1] = [] from t)
  | e1 :: e2 :: r, t =>
    obtain ⟨_, _, h1, _, _, _, h2, _⟩ := t
    cases h1; cases h2
theorem s_bin {op : Operator} {p : Prim} {a b : Expr} {c1 c2 : E} {pos : Pos} (hb : BinOk X (binaryOp op) (wpP p)) (h1 : PE X a (tA Φ X W c1)) (h2 : PE X b (tA Φ X W c2)) : PE X (.BinOp a op b pos) (tE Φ X W (.prim p (.cons c1 (.cons c2 .nil)))) := by
  obtain ⟨r0, ho, hr⟩ := hb
  refine PE.imp (pe_op (opR_cl ho) h1 h2) fun σ H Q' ⟨F, ρ, f, Q, xe, r, x, w, k⟩ => ?_
  simp only [wpE] at w
  refine two_args r x w fun v1 v2 F2 H2 ρ2 f2 as fin q he => ?_
  obtain ⟨es, e1, q⟩ := onO_some q
  obtain ⟨x1, x2, g1, g2, rfl, o1, o2⟩ := he es e1
  refine ⟨_, hr F2 H2 x1 x2 v1 v2 g1 g2 _ o1 o2 q, fun v H' z => ?_⟩
  obtain ⟨e, g, fin', o, q'⟩ := fin.res z
  exact k v F2 H' e ρ2 f2 g fin' o q'
/-- the two readings of a comparison -/
theorem i_bin {r0 : R2} {p : Prim} {c1 c2 : E} (hr : ∀ (F : Addr → Prop) (H : Hp) (e1 e2 : Ety) (v1 v2 : V) (g1 g2 : List Addr) (Q : Ety → Prop), Ow X.K F H e1.d e1.p v1 g1 → Ow X.K F H e2.d e2.p v2 g2 → wpP p [e1, e2] Q → r0 v1 v2 H (Res X.K F H Q))
    (σ : L2.St) (H : Hp) (Q' : VK) : tE Φ X W (.prim p (.cons c1 (.cons c2 .nil))) σ H Q' → tOp (rCl r0) (tA Φ X W c1) (tA Φ X W c2) σ H Q' := fun ⟨F, ρ, f, Q, xe, r, x, w, k⟩ => by
  simp only [wpE] at w
  refine two_args r x w fun v1 v2 F2 H2 ρ2 f2 as fin q he => ?_
  obtain ⟨es, e1, q⟩ := onO_some q
  obtain ⟨x1, x2, g1, g2, rfl, o1, o2⟩ := he es e1
  refine ⟨_, hr F2 H2 x1 x2 v1 v2 g1 g2 _ o1 o2 q, fun v H' z => ?_⟩
  obtain ⟨e, g, fin', o, q'⟩ := fin.res z
  exact k v F2 H' e ρ2 f2 g fin' o q'
theorem i_cmpN {r0 : R2} {p : Prim} {c1 : E} {pf : List Ety → (Ety → Prop) → Prop} (hr : ∀ (F : Addr → Prop) (H : Hp) (e1 e2 : Ety) (v1 v2 : V) (g1 g2 : List Addr) (Q : Ety → Prop), Ow X.K F H e1.d e1.p v1 g1 → Ow X.K F H e2.d e2.p v2 g2 → pf [e1, e2] Q → r0 v1 v2 H (Res X.K F H Q))
    (hpf : ∀ e1 e2 Q, e2.d = .none → wpP p [e1] Q → pf [e1, e2] Q) (σ : L2.St) (H : Hp) (Q' : VK) : tE Φ X W (.prim p (.cons c1 .nil)) σ H Q' → tOp (rCl r0) (tA Φ X W c1) (tC .non) σ H Q' := fun ⟨F, ρ, f, Q, xe, r, x, w, k⟩ => by
  simp only [wpE] at w
  refine one_arg' (r0 := fun v H2 => tC .non σ H2 fun y H3 => rCl r0 v y H3 Q') r x w fun v1 F2 H2 ρ2 f2 as fin q he => ?_
  obtain ⟨es, e1, q⟩ := onO_some q
  obtain ⟨x1, g1, rfl, o1⟩ := he es e1
  refine ⟨_, hr F2 H2 x1 (sh .none) v1 .non g1 [] _ o1 (Ow_sh.mpr ⟨rfl, dv_non⟩) (hpf _ _ _ rfl q), fun v H' z => ?_⟩
  obtain ⟨e, g, fin', o, q'⟩ := fin.res z
  exact k v F2 H' e ρ2 f2 g fin' o q'
/-- a test's reading from the value's -/
theorem tTst_tE {c : E} {σ : L2.St} {H : Hp} {Q' : Bool → Hp → Prop} (h : tTst Φ X W c σ H Q') : tE Φ X W c σ H fun v H' => ∃ b, v = .bl b ∧ Q' b H' := by
  obtain ⟨F, ρ, f, Q, xe, r, x, w, k⟩ := h
  refine ⟨F, ρ, f, _, xe, r, x, w, fun v F' H' e ρ' f' g fin o q => ?_⟩
  obtain ⟨b, hb, q⟩ := isBool_some q
  rw [hb] at o
  exact ⟨b, o.bl, k b F' H' ρ' f' fin.drop q⟩
theorem pt_of {c : E} {e : Expr} (h : PE X e (tE Φ X W c)) (he : ∀ whole, isTrue e X.env whole = (do let v ← whole; standAt e.pos; holding [v] (truthy v))) : PT X e (tTst Φ X W c) :=
  PT.imp (pt_val h he) fun _ _ _ z => tTst_tE z
theorem s_cmp {op : CmpOp} {p : Prim} {a b : Expr} {c1 c2 : E} {pos : Pos} (hb : BinOk X (compareOp op) (wpP p)) (hm : behindInMarks op b = false) (h1 : PE X a (tA Φ X W c1)) (h2 : PE X b (tA Φ X W c2)) :
    PE X (.Compare a [op] [b] pos) (tE Φ X W (.prim p (.cons c1 (.cons c2 .nil)))) ∧ PT X (.Compare a [op] [b] pos) (tTst Φ X W (.prim p (.cons c1 (.cons c2 .nil)))) := by
  obtain ⟨r0, ho, hr⟩ := hb
  exact ⟨PE.imp (pe_cmpR (opR_cl ho) h1 h2 hm) (i_bin hr), PT.imp (pt_cmpR (opR_cl ho) h1 h2 hm) fun _ _ _ z => i_bin hr _ _ _ (tTst_tE z)⟩
/-- is None: the right side is written -/
theorem s_cmpN {op : CmpOp} {p : Prim} {a : Expr} {c1 : E} {pos pos' : Pos} {j : Nat} {pf : List Ety → (Ety → Prop) → Prop} (hb : BinOk X (compareOp op) pf) (hpf : ∀ e1 e2 Q, e2.d = .none → wpP p [e1] Q → pf [e1, e2] Q) (h1 : PE X a (tA Φ X W c1)) :
    PE X (.Compare a [op] [.Constant .none j pos'] pos) (tE Φ X W (.prim p (.cons c1 .nil))) ∧ PT X (.Compare a [op] [.Constant .none j pos'] pos) (tTst Φ X W (.prim p (.cons c1 .nil))) := by
  obtain ⟨r0, ho, hr⟩ := hb
  exact ⟨PE.imp (pe_cmpR (opR_cl ho) h1 pe_non (by cases op <;> rfl)) (i_cmpN hr hpf), PT.imp (pt_cmpR (opR_cl ho) h1 pe_non (by cases op <;> rfl)) fun _ _ _ z => i_cmpN hr hpf _ _ _ (tTst_tE z)⟩
theorem s_un {op : UnaryOp} {p : Prim} {a : Expr} {c1 : E} {pos : Pos} (hb : UnOk X (unaryOp op) (wpP p)) (h1 : PE X a (tA Φ X W c1)) : PE X (.UnaryOp op a pos) (tE Φ X W (.prim p (.cons c1 .nil))) := by
  obtain ⟨r0, ho, hr⟩ := hb
  refine PE.imp (pe_un (unR_cl ho) h1) fun σ H Q' ⟨F, ρ, f, Q, xe, r, x, w, k⟩ => ?_
  simp only [wpE] at w
  refine one_arg' r x w fun v1 F2 H2 ρ2 f2 as fin q he => ?_
  obtain ⟨es, e1, q⟩ := onO_some q
  obtain ⟨x1, g1, rfl, o1⟩ := he es e1
  refine ⟨_, hr F2 H2 x1 v1 g1 _ o1 q, fun v H' z => ?_⟩
  obtain ⟨e, g, fin', o, q'⟩ := fin.res z
  exact k v F2 H' e ρ2 f2 g fin' o q'
theorem s_ix' {p : Prim} {a b : Expr} {c1 c2 : E} {pos : Pos} (hx : IxOk X (wpP p)) (hs : PlainIx b) (h1 : PE X a (tA Φ X W c1)) (h2 : PE X b (tA Φ X W c2)) : PE X (.Subscript a b pos) (tE Φ X W (.prim p (.cons c1 (.cons c2 .nil)))) := by
  obtain ⟨r0, ho, hr⟩ := hx
  refine PE.imp (pe_ix (ixR_cl ho) h1 h2 hs) fun σ H Q' ⟨F, ρ, f, Q, xe, r, x, w, k⟩ => ?_
  simp only [wpE] at w
  refine two_args r x w fun v1 v2 F2 H2 ρ2 f2 as fin q he => ?_
  obtain ⟨es, e1, q⟩ := onO_some q
  obtain ⟨x1, x2, g1, g2, rfl, o1, o2⟩ := he es e1
  refine ⟨_, hr F2 H2 x1 x2 v1 v2 g1 g2 _ o1 o2 q, fun v H' z => ?_⟩
  obtain ⟨e, g, fin', o, q'⟩ := fin.res z
  exact k v F2 H' e ρ2 f2 g fin' o q'
theorem s_ix {a b : Expr} {c1 c2 : E} {pos : Pos} (hs : PlainIx b) (h1 : PE X a (tA Φ X W c1)) (h2 : PE X b (tA Φ X W c2)) : PE X (.Subscript a b pos) (tE Φ X W (.prim .ix (.cons c1 (.cons c2 .nil)))) := s_ix' (p := .ix) x_ix hs h1 h2
theorem s_ixr {a b : Expr} {c1 c2 : E} {pos : Pos} (hs : PlainIx b) (h1 : PE X a (tA Φ X W c1)) (h2 : PE X b (tA Φ X W c2)) : PE X (.Subscript a b pos) (tE Φ X W (.prim .ixr (.cons c1 (.cons c2 .nil)))) := s_ix' (p := .ixr) x_ixr hs h1 h2
/-- .. of values at hand -/
theorem s_es_nil : PA X [] (tEs Φ X W .nil) := PA.imp pa_nil fun σ H Q' ⟨F, ρ, f, Q, xe, r, x, w, k⟩ => by
  simp only [wpEs] at w
  exact k [] F H [] ρ f [] (.refl r) ⟨rfl, rfl⟩ w
theorem s_es_cons {c : E} {cs : Es} {e : Expr} {es : List Expr} (h1 : PE X e (tA Φ X W c)) (h2 : PA X es (tEs Φ X W cs)) (hs : starEach (e :: es) X.env = (false, eval e X.env) :: starEach es X.env) : PA X (e :: es) (tEs Φ X W (.cons c cs)) :=
  PA.imp (pa_cons h1 h2 hs) fun σ H Q' ⟨F, ρ, f, Q, xe, r, x, w, k⟩ => by
    rw [wpEs_cons] at w
    refine ⟨F, ρ, f, _, xe, r, x, w, fun v1 F1 H1 a1 ρ1 f1 g1 fin1 o1 q1 => ?_⟩
    refine ⟨F1, ρ1, f1, _, xe, fin1.rep, x.fin fin1, q1, fun vs F2 H2 as ρ2 f2 g2 fin2 o2 q2 => ?_⟩
    have o1' : AvOk X.K F2 H2 σ a1 v1 g1 := o1.chg fin2.chg fin1.rep.off fin1.rep.lst fin1.apart
    exact k (v1 :: vs) F2 H2 (a1 :: as) ρ2 f2 (g1 ++ g2) (fin1.trans fin2) ⟨v1, vs, g1, g2, rfl, rfl, o1', o2⟩ q2
theorem shV_ok {K : PySem.W.Frag} {F : Addr → Prop} {H : Hp} {σ : L2.St} : ∀ {as : List AV} {vs : List V} {g : List Addr} {ds : List D}, AvA K F H σ as vs g → shV as = some ds → DvA K F H ds vs
  | [], vs, g, ds, h, e => by
    simp [shV] at e; subst e
    rw [DvA_nil]; exact h.1
  | a :: as, vs, g, ds, h, e => by
    obtain ⟨x, xr, g1, g2, rfl, rfl, h1, h2⟩ := h
    cases a with
    | pk i => simp [shV] at e
    | val y =>
      obtain ⟨p, d⟩ := y
      cases p with
      | sh =>
        simp only [shV, Option.map_eq_some_iff] at e
        obtain ⟨ds', e1, rfl⟩ := e
        exact DvA_cons.mpr ⟨x, xr, rfl, (Ow_sh.mp h1).2, shV_ok h2 e1⟩
      | own _ => simp [shV] at e
      | raw => simp [shV] at e
theorem s_tup {es : List Expr} {k0 : Nat} {pos : Pos} {cs : Es} (h : PA X es (tEs Φ X W cs)) : PE X (.Tuple es k0 pos) (tE Φ X W (.tup cs)) := PE.imp (pe_tup h) fun σ H Q' ⟨F, ρ, f, Q, xe, r, x, w, k⟩ => by
  simp only [wpE] at w
  refine ⟨F, ρ, f, _, xe, r, x, w, fun vs F1 H1 as ρ1 f1 g1 fin1 o1 q1 => ?_⟩
  obtain ⟨ds, e1, hz, q⟩ := onO_some q1
  have hd := shV_ok o1 e1
  refine ⟨by rw [hd.length]; exact hz, fun p hp => ?_⟩
  obtain ⟨e, g, fin', o, q'⟩ := fin1.res (res_tup (Q := fun e => Q e ρ1) hp hd q)
  exact k _ F1 _ e ρ1 f1 g fin' o q'
theorem s_lst {es : List Expr} {pos : Pos} {cs : Es} (h : PA X es (tEs Φ X W cs)) : PE X (.List es pos) (tE Φ X W (.lst cs)) := PE.imp (pe_lst h) fun σ H Q' ⟨F, ρ, f, Q, xe, r, x, w, k⟩ => by
  simp only [wpE] at w
  refine ⟨F, ρ, f, _, xe, r, x, w, fun vs F1 H1 as ρ1 f1 g1 fin1 o1 q1 => ?_⟩
  obtain ⟨ds, e1, hz, q⟩ := onO_some q1
  have hd := shV_ok o1 e1
  refine ⟨by rw [hd.length]; exact hz, fun p hp => ?_⟩
  obtain ⟨e, g, fin', o, q'⟩ := fin1.res (res_lst (Q := fun e => Q e ρ1) hp hd q)
  exact k _ F1 _ e ρ1 f1 g fin' o q'
theorem three_args {c1 c2 c3 : E} {σ : L2.St} {H : Hp} {r0 : V → V → V → Hp → Prop} {F : Addr → Prop} {ρ : Rho} {f : List Addr} {xe : XE} {Qs : List AV → Rho → Prop}
    (r : Rep X.K F H σ ρ f) (x : XOk X W F H σ f xe) (w : wpEs Φ (.cons c1 (.cons c2 (.cons c3 .nil))) ρ Qs xe)
    (k : ∀ v1 v2 v3 F2 H2 ρ2 f2 as, FinG X.K F H σ f F2 H2 ρ2 f2 [] → Qs as ρ2 → (∀ es, looks ρ2 as = some es → ∃ e1 e2 e3 g1 g2 g3, es = [e1, e2, e3] ∧ Ow X.K F2 H2 e1.d e1.p v1 g1 ∧ Ow X.K F2 H2 e2.d e2.p v2 g2 ∧ Ow X.K F2 H2 e3.d e3.p v3 g3) → r0 v1 v2 v3 H2) :
    tA Φ X W c1 σ H fun v1 H1 => tA Φ X W c2 σ H1 fun v2 H2 => tA Φ X W c3 σ H2 fun v3 H3 => r0 v1 v2 v3 H3 := by
  rw [wpEs_cons] at w
  refine ⟨F, ρ, f, _, xe, r, x, w, fun v1 F1 H1 a1 ρ1 f1 g1 fin1 o1 q1 => ?_⟩
  rw [wpEs_cons] at q1
  refine ⟨F1, ρ1, f1, _, xe, fin1.rep, x.fin fin1, q1, fun v2 F2 H2 a2 ρ2 f2 g2 fin2 o2 q2 => ?_⟩
  rw [wpEs_cons] at q2
  refine ⟨F2, ρ2, f2, _, xe, fin2.rep, (x.fin fin1).fin fin2, q2, fun v3 F3 H3 a3 ρ3 f3 g3 fin3 o3 q3 => ?_⟩
  simp only [wpEs] at q3
  refine k v1 v2 v3 F3 H3 ρ3 f3 [a1, a2, a3] ((fin1.trans' fin2).trans' fin3).drop q3 fun es he => ?_
  have fin12 := fin1.trans fin2
  have o1' : AvOk X.K F2 H2 σ a1 v1 g1 := o1.chg fin2.chg fin1.rep.off fin1.rep.lst fin1.apart
  have o1'' : AvOk X.K F3 H3 σ a1 v1 g1 := o1'.chg fin3.chg fin2.rep.off fin2.rep.lst fun a ha => fin12.apart a (List.mem_append_left _ ha)
  have o2' : AvOk X.K F3 H3 σ a2 v2 g2 := o2.chg fin3.chg fin2.rep.off fin2.rep.lst fin2.apart
  have all : AvA X.K F3 H3 σ [a1, a2, a3] [v1, v2, v3] (g1 ++ (g2 ++ (g3 ++ []))) := ⟨v1, _, g1, _, rfl, rfl, o1'', v2, _, g2, _, rfl, rfl, o2', v3, _, g3, [], rfl, rfl, o3, rfl, rfl⟩
  have t := looks_ok fin3.rep all he
  match es, t with
  | [e1, e2, e3], t =>
    obtain ⟨_, _, h1, ⟨ga, oa⟩, _, _, h2, ⟨gb, ob⟩, _, _, h3, ⟨gc, oc⟩, h4⟩ := t
    cases h1; cases h2; cases h3
    exact ⟨e1, e2, e3, ga, gb, gc, rfl, oa, ob, oc⟩
  | [], t => exact nomatch (show [v1, v2, v3] = [] from t)
  | [e1], t => obtain ⟨_, _, h1, _, h2⟩ := t; cases h1; cases h2
  | [e1, e2], t => obtain ⟨_, _, h1, _, _, _, h2, _, h3⟩ := t; cases h1; cases h2; cases h3
  | e1 :: e2 :: e3 :: e4 :: r, t =>
    obtain ⟨_, _, h1, _, _, _, h2, _, _, _, h3, _, _, _, h4, _⟩ := t
    cases h1; cases h2; cases h3; cases h4
theorem int_of {K : PySem.W.Frag} {F : Addr → Prop} {H : Hp} {e : Ety} {v : V} {g : List Addr} {i : Int} (o : Ow K F H e.d e.p v g) (h : e.d = .int i) : v = .int i := by
  rw [h] at o; exact o.int
/-- slices -/
theorem s_sl0 {a : Expr} {c1 : E} {pos p2 : Pos} (h1 : PE X a (tA Φ X W c1)) : PE X (.Subscript a (.Slice none none none p2) pos) (tE Φ X W (.prim (.sl false false) (.cons c1 .nil))) := by
  obtain ⟨r0, ho, hr⟩ := x_sl (X := X)
  refine PE.imp (pe_slice (slR_cl ho) h1 po_none po_none) fun σ H Q' ⟨F, ρ, f, Q, xe, r, x, w, k⟩ => ?_
  simp only [wpE] at w
  refine one_arg' r x w fun v1 F2 H2 ρ2 f2 as fin q he => ?_
  obtain ⟨es, e1, q⟩ := onO_some q
  obtain ⟨x1, g1, rfl, o1⟩ := he es e1
  refine ⟨_, hr F2 H2 x1 v1 g1 none none (fun v => Q v ρ2) o1 q, fun v H' z => ?_⟩
  obtain ⟨e, g, fin', o, q'⟩ := fin.res z
  exact k v F2 H' e ρ2 f2 g fin' o q'
theorem pSl_l {e1 e2 : Ety} {Q : Ety → Prop} (h : pSl true false [e1, e2] Q) : ∃ i, e2.d = .int i ∧ pSlv e1 (some i) none Q := by
  obtain ⟨p, d⟩ := e2
  cases d <;> first | exact h.elim | exact ⟨_, rfl, h⟩
theorem pSl_h {e1 e2 : Ety} {Q : Ety → Prop} (h : pSl false true [e1, e2] Q) : ∃ i, e2.d = .int i ∧ pSlv e1 none (some i) Q := by
  obtain ⟨p, d⟩ := e2
  cases d <;> first | exact h.elim | exact ⟨_, rfl, h⟩
/-- from two readings to a reading with a part -/
theorem s_sl1 {a b : Expr} {c1 c2 : E} {pos p2 : Pos} (h1 : PE X a (tA Φ X W c1)) (h2 : PE X b (tA Φ X W c2)) : PE X (.Subscript a (.Slice (some b) none none p2) pos) (tE Φ X W (.prim (.sl true false) (.cons c1 (.cons c2 .nil)))) := by
  obtain ⟨r0, ho, hr⟩ := x_sl (X := X)
  refine PE.imp (pe_slice (slR_cl ho) h1 (po_some h2) po_none) fun σ H Q' ⟨F, ρ, f, Q, xe, r, x, w, k⟩ => ?_
  simp only [wpE] at w
  refine two_args (r0 := fun v1 v2 H2 => ∃ i, v2 = .int i ∧ ∃ Q0, r0 v1 (some i) none H2 Q0 ∧ ∀ v H', Q0 v H' → Q' v H') r x w fun v1 v2 F2 H2 ρ2 f2 as fin q he => ?_
  obtain ⟨es, e1, q⟩ := onO_some q
  obtain ⟨x1, x2, g1, g2, rfl, o1, o2⟩ := he es e1
  obtain ⟨i, hi, q⟩ := pSl_l q
  refine ⟨i, int_of o2 hi, _, hr F2 H2 x1 v1 g1 (some i) none _ o1 q, fun v H' z => ?_⟩
  obtain ⟨e, g, fin', o, q'⟩ := fin.res z
  exact k v F2 H' e ρ2 f2 g fin' o q'
theorem s_sl2 {a b : Expr} {c1 c2 : E} {pos p2 : Pos} (h1 : PE X a (tA Φ X W c1)) (h2 : PE X b (tA Φ X W c2)) : PE X (.Subscript a (.Slice none (some b) none p2) pos) (tE Φ X W (.prim (.sl false true) (.cons c1 (.cons c2 .nil)))) := by
  obtain ⟨r0, ho, hr⟩ := x_sl (X := X)
  refine PE.imp (pe_slice (slR_cl ho) h1 po_none (po_some h2)) fun σ H Q' ⟨F, ρ, f, Q, xe, r, x, w, k⟩ => ?_
  simp only [wpE] at w
  refine two_args (r0 := fun v1 v2 H2 => ∃ i, v2 = .int i ∧ ∃ Q0, r0 v1 none (some i) H2 Q0 ∧ ∀ v H', Q0 v H' → Q' v H') r x w fun v1 v2 F2 H2 ρ2 f2 as fin q he => ?_
  obtain ⟨es, e1, q⟩ := onO_some q
  obtain ⟨x1, x2, g1, g2, rfl, o1, o2⟩ := he es e1
  obtain ⟨i, hi, q⟩ := pSl_h q
  refine ⟨i, int_of o2 hi, _, hr F2 H2 x1 v1 g1 none (some i) _ o1 q, fun v H' z => ?_⟩
  obtain ⟨e, g, fin', o, q'⟩ := fin.res z
  exact k v F2 H' e ρ2 f2 g fin' o q'
theorem isInt_some {e : Ety} {f : Int → Prop} (h : isInt e f) : ∃ i, e.d = .int i ∧ f i := by
  obtain ⟨p, d⟩ := e
  cases d <;> first | exact h.elim | exact ⟨_, rfl, h⟩
theorem s_cut {a b c : Expr} {c1 c2 c3 : E} {pos p2 : Pos} (h1 : PE X a (tA Φ X W c1)) (h2 : PE X b (tE Φ X W c2)) (h3 : PE X c (tE Φ X W c3)) : PE X (.Subscript a (.Slice (some b) (some c) none p2) pos) (tE Φ X W (.cut (.cons c1 .nil) c2 c3)) := by
  obtain ⟨r0, ho, hr⟩ := x_sl (X := X)
  refine PE.imp (pe_slice (slR_cl ho) h1 (po_some h2) (po_some h3)) fun σ H Q' ⟨F, ρ, f, Q, xe, r, x, w, k⟩ => ?_
  simp only [wpE] at w
  rw [wpEs_cons] at w
  refine ⟨F, ρ, f, _, xe, r, x, w, fun v1 F1 H1 a1 ρ1 f1 g1 fin1 o1 q1 => ?_⟩
  simp only [wpEs] at q1
  refine ⟨F1, ρ1, f1, _, xe, fin1.rep, x.fin fin1, q1, fun v2 F2 H2 e2 ρ2 f2 g2 fin2 o2 q2 => ?_⟩
  obtain ⟨i, hi, q2⟩ := isInt_some q2
  refine ⟨i, int_of o2 hi, F2, ρ2, f2, _, xe, fin2.rep, (x.fin fin1).fin fin2, q2, fun v3 F3 H3 e3 ρ3 f3 g3 fin3 o3 q3 => ?_⟩
  obtain ⟨j, hj, q3⟩ := isInt_some q3
  obtain ⟨es, e1, q⟩ := onO_some q3
  have fin12 := fin1.trans fin2
  have o1' : AvOk X.K F2 H2 σ a1 v1 g1 := o1.chg fin2.chg fin1.rep.off fin1.rep.lst fin1.apart
  have o1'' : AvOk X.K F3 H3 σ a1 v1 g1 := o1'.chg fin3.chg fin2.rep.off fin2.rep.lst fun a ha => fin12.apart a (List.mem_append_left _ ha)
  have all : AvA X.K F3 H3 σ [a1] [v1] (g1 ++ []) := ⟨v1, [], g1, [], rfl, rfl, o1'', rfl, rfl⟩
  have t := looks_ok fin3.rep all e1
  match es, t with
  | [x1], t =>
    obtain ⟨_, _, h1, ⟨ga, oa⟩, h4⟩ := t
    cases h1
    refine ⟨j, int_of o3 hj, _, hr F3 H3 x1 v1 ga (some i) (some j) (fun y => Q y ρ3) oa q, fun v H' z => ?_⟩
    obtain ⟨e, g, fin', o, q'⟩ := ((fin1.trans' fin2).trans' fin3).drop.res z
    exact k v F3 H' e ρ3 f3 g fin' o q'
  | [], t => exact nomatch (show [v1] = [] from t)
  | e1 :: e2 :: r, t => obtain ⟨_, _, h1, _, _, _, h2, _⟩ := t; cases h1; cases h2
/-- x[::-1] -/
theorem s_bk {a : Expr} {c1 : E} {j : Nat} {p1 p2 p3 pos : Pos} (h1 : PE X a (tA Φ X W c1)) : PE X (.Subscript a (.Slice none none (some (.UnaryOp .USub (.Constant (.int 1) j p1) p2)) p3) pos) (tE Φ X W (.prim .bk (.cons c1 .nil))) := by
  refine PE.imp (pe_revA h1) fun σ H Q' ⟨F, ρ, f, Q, xe, r, x, w, k⟩ => ?_
  simp only [wpE] at w
  refine one_arg' r x w fun v1 F2 H2 ρ2 f2 as fin q he => ?_
  obtain ⟨es, e1, q⟩ := onO_some q
  obtain ⟨x1, g1, rfl, o1⟩ := he es e1
  obtain ⟨p, d⟩ := x1
  unfold wpP pBk at q
  simp only at q
  split at q
  · rename_i p' xs e
    simp only [List.cons.injEq, Ety.mk.injEq] at e
    obtain ⟨⟨rfl, rfl⟩, _⟩ := e
    obtain ⟨hp, q⟩ := q
    obtain ⟨a, ys, rfl, h1, h2⟩ := o1.listEl hp
    refine ⟨a, ys, rfl, .inl ⟨h1, fun p hp => ?_⟩⟩
    obtain ⟨e, g, fin', o, q'⟩ := fin.res (res_lst (Q := fun e => Q e ρ2) hp h2.reverse q)
    exact k _ F2 _ e ρ2 f2 g fin' o q'
  · rename_i p' xs e
    simp only [List.cons.injEq, Ety.mk.injEq] at e
    obtain ⟨⟨rfl, rfl⟩, _⟩ := e
    obtain ⟨a, ys, rfl, h1, h2⟩ := o1.tup
    refine ⟨a, ys, rfl, .inr ⟨h1, fun p hp => ?_⟩⟩
    obtain ⟨e, g, fin', o, q'⟩ := fin.res (res_tup (Q := fun e => Q e ρ2) hp h2.reverse q)
    exact k _ F2 _ e ρ2 f2 g fin' o q'
  · exact q.elim
/-- built-ins -/
theorem s_callB {x : Str} {p pos : Pos} {id : String} {pr : Prim} {e : Expr} {es : List Expr} {cs : Es} (hc : CallOk X (.builtin id) (wpP pr)) (hg : Gl X x) (hm : X.mg x = none) (hv : bootBuiltins x = some (.builtin id)) (h : PA X (e :: es) (tEs Φ X W cs)) (ho : okName x = true)
    (he : starEach (e :: es) X.env = (false, eval e X.env) :: starEach es X.env) (hpl : (backTo pos (starEach es X.env)).any (·.1) = false) : PE X (.Call (.Name x p) (e :: es) [] pos) (tE Φ X W (.prim pr cs)) := by
  obtain ⟨r0, hr0, hr⟩ := hc
  refine PE.imp (pe_callB (callR_cl hr0) hg hm hv h (okName_of ho).2.2 (okName_of ho).1 he hpl) fun σ H Q' ⟨F, ρ, f, Q, xe, r, x, w, k⟩ => ?_
  simp only [wpE] at w
  refine ⟨F, ρ, f, _, xe, r, x, w, fun vs F1 H1 as ρ1 f1 g1 fin1 o1 q1 => ?_⟩
  obtain ⟨es, e1, q⟩ := onO_some q1
  have t := looks_ok fin1.rep o1 e1
  refine ⟨_, hr F1 H1 es vs _ t q, fun v H' z => ?_⟩
  obtain ⟨e, g, fin', o, q'⟩ := fin1.drop.res z
  exact k v F1 H' e ρ1 f1 g fin' o q'
theorem s_callT {x : Str} {p pos : Pos} {T : String} {pr : Prim} {e : Expr} {es : List Expr} {cs : Es} (hc : CallOk X (.type T) (wpP pr)) (hg : Gl X x) (hm : X.mg x = none) (hv : bootBuiltins x = some (.type T)) (h : PA X (e :: es) (tEs Φ X W cs)) (ho : okName x = true)
    (he : starEach (e :: es) X.env = (false, eval e X.env) :: starEach es X.env) (hpl : (backTo pos (starEach es X.env)).any (·.1) = false) : PE X (.Call (.Name x p) (e :: es) [] pos) (tE Φ X W (.prim pr cs)) := by
  obtain ⟨r0, hr0, hr⟩ := hc
  refine PE.imp (pe_callTy (callR_cl hr0) hg hm hv h (okName_of ho).2.2 (okName_of ho).1 he hpl) fun σ H Q' ⟨F, ρ, f, Q, xe, r, x, w, k⟩ => ?_
  simp only [wpE] at w
  refine ⟨F, ρ, f, _, xe, r, x, w, fun vs F1 H1 as ρ1 f1 g1 fin1 o1 q1 => ?_⟩
  obtain ⟨es, e1, q⟩ := onO_some q1
  have t := looks_ok fin1.rep o1 e1
  refine ⟨_, hr F1 H1 es vs _ t q, fun v H' z => ?_⟩
  obtain ⟨e, g, fin', o, q'⟩ := fin1.drop.res z
  exact k v F1 H' e ρ1 f1 g fin' o q'
end
end MS
namespace MS
open PySem PySem.Spec PyProof.Rows L2
section
variable {K : PySem.W.Frag} {F F' : Addr → Prop} {H H' : Hp} {σ : L2.St}
theorem at_set_ne {ρ : Rho} {i j : Nat} {o : Option Ety} (h : i ≠ j) : Rho.at (ρ.set i o) j = Rho.at ρ j := by
  unfold Rho.at
  rw [List.getElem?_set_ne h]
theorem look_set {ρ : Rho} {i : Nat} {o : Option Ety} : ∀ {as : List AV}, i ∉ pkI as → looks (ρ.set i o) as = looks ρ as
  | [], _ => rfl
  | .val e :: as, h => by
    unfold looks
    rw [look_set (as := as) (by simpa [pkI] using h)]
    rfl
  | .pk j :: as, h => by
    have h' : i ≠ j ∧ i ∉ pkI as := by simpa [pkI] using h
    unfold looks
    rw [look_set (as := as) h'.2]
    show (match Rho.at (ρ.set i o) j, looks ρ as with | some e, some es => some (e :: es) | _, _ => none) = _
    rw [at_set_ne h'.1]
    rfl
theorem kills_set {ρ : Rho} {i : Nat} {o : Option Ety} : ∀ {as : List AV}, i ∉ pkI as → kills (ρ.set i o) as = (kills ρ as).set i o
  | [], _ => rfl
  | .val e :: as, h => by
    unfold kills
    exact kills_set (as := as) (by simpa [pkI] using h)
  | .pk j :: as, h => by
    have h' : i ≠ j ∧ i ∉ pkI as := by simpa [pkI] using h
    unfold kills
    rw [List.set_comm _ _ h'.1]
    exact kills_set (as := as) h'.2
theorem kills_length {ρ : Rho} : ∀ {as : List AV}, (kills ρ as).length = ρ.length
  | [] => rfl
  | .val e :: as => by unfold kills; exact kills_length
  | .pk j :: as => by unfold kills; rw [kills_length, List.length_set]
/-- the arguments apart from the caller's names -/
theorem call_in : ∀ {as : List AV} {ρ : Rho} {f g : List Addr} {vs : List V} {es : List Ety}, Rep K F H σ ρ f → AvA K F H σ as vs g → (g ++ f).Nodup → looks ρ as = some es → (pkI as).Nodup →
    ∃ fa fr, Slots K F H (vs.map some) (es.map some) fa ∧ Rep K F H σ (kills ρ as) fr ∧ (fa ++ fr).Nodup ∧ ∀ a ∈ fa ++ fr, a ∈ g ++ f
  | [], ρ, f, g, vs, es, r, h, nd, hl, np => by
    obtain ⟨rfl, rfl⟩ := h
    simp [looks] at hl; subst hl
    exact ⟨[], f, rfl, r, by simpa using r.nd, by simp⟩
  | .val e :: as, ρ, f, g, vs, es, r, h, nd, hl, np => by
    obtain ⟨x, xr, g1, g2, rfl, rfl, h1, h2⟩ := h
    unfold looks at hl
    cases e2 : looks ρ as with
    | none => rw [e2] at hl; cases hl
    | some es' =>
      rw [e2] at hl
      have hl : e :: es' = es := Option.some.inj hl
      subst hl
      rw [List.append_assoc] at nd
      obtain ⟨n1, n2, n3⟩ := List.nodup_append.mp nd
      obtain ⟨fa, fr, k1, k2, k3, k4⟩ := call_in r h2 n2 e2 np
      refine ⟨g1 ++ fa, fr, ⟨g1, fa, rfl, ⟨x, rfl, h1⟩, k1⟩, k2, ?_, fun a ha => ?_⟩
      · rw [List.append_assoc]
        exact List.nodup_append.mpr ⟨n1, k3, fun a ha b hb => n3 a ha b (k4 b hb)⟩
      · rw [List.append_assoc] at ha ⊢
        rcases List.mem_append.mp ha with z | z
        · exact List.mem_append_left _ z
        · exact List.mem_append_right _ (k4 a z)
  | .pk i :: as, ρ, f, g, vs, es, r, h, nd, hl, np => by
    obtain ⟨x, xr, g1, g2, rfl, rfl, ⟨rfl, h1⟩, h2⟩ := h
    unfold looks at hl
    cases e1 : Rho.at ρ i with
    | none => simp [AV.look, e1] at hl
    | some e =>
      cases e2 : looks ρ as with
      | none => simp [e2] at hl
      | some es' =>
        simp only [AV.look, e1, e2] at hl
        have hl : e :: es' = es := Option.some.inj hl
        subst hl
        obtain ⟨n1, n2⟩ := List.nodup_cons.mp (show (i :: pkI as).Nodup from np)
        obtain ⟨o, gi, f0, h3, p, ⟨v, rfl, s⟩, r0⟩ := r.out (at_some e1)
        have ev : x = v := by have := h1.symm.trans h3; simpa using this
        subst ev
        have nd0 : (g2 ++ f).Nodup := by simpa using nd
        have nd1 : (g2 ++ f0).Nodup := by
          obtain ⟨m1, m2, m3⟩ := List.nodup_append.mp nd0
          exact List.nodup_append.mpr ⟨m1, r0.nd, fun a ha b hb => m3 a ha b (p.mem_iff.mpr (List.mem_append_right _ hb))⟩
        obtain ⟨fa, fr, k1, k2, k3, k4⟩ := call_in (ρ := ρ.set i none) r0 h2 nd1 (by rw [look_set n1]; exact e2) n2
        have ndp := p.nodup_iff.mp r.nd
        obtain ⟨m1, m2, m3⟩ := List.nodup_append.mp nd0
        refine ⟨gi ++ fa, fr, ⟨gi, fa, rfl, ⟨x, rfl, s⟩, k1⟩, k2, ?_, fun a ha => ?_⟩
        · rw [List.append_assoc]
          refine List.nodup_append.mpr ⟨(List.nodup_append.mp ndp).1, k3, fun a ha b hb e => ?_⟩
          subst e
          rcases List.mem_append.mp (k4 a hb) with z | z
          · exact m3 a z a (p.mem_iff.mpr (List.mem_append_left _ ha)) rfl
          · exact (List.nodup_append.mp ndp).2.2 a ha a z rfl
        · rw [List.append_assoc] at ha
          show a ∈ [] ++ g2 ++ f
          rw [List.nil_append]
          rcases List.mem_append.mp ha with z | z
          · exact List.mem_append_right _ (p.mem_iff.mpr (List.mem_append_left _ z))
          · rcases List.mem_append.mp (k4 a z) with z | z
            · exact List.mem_append_left _ z
            · exact List.mem_append_right _ (p.mem_iff.mpr (List.mem_append_right _ z))
/-- and back -/
theorem call_out : ∀ {as : List AV} {ρ ρ2 : Rho} {fr fa g : List Addr} {vs : List V} {es : List Ety} {os : List D} {es' : List (Option Ety)}, Rep K F H σ (kills ρ as) fr → AvA K F' H' σ as vs g → looks ρ as = some es → (pkI as).Nodup →
    outE (as.map AV.isPk) es os = some es' → Slots K F H (vs.map some) es' fa → (fa ++ fr).Nodup → (∀ a ∈ fa, ¬ F a) → puts ρ as os = some ρ2 → ∃ f2, Rep K F H σ ρ2 f2 ∧ ∀ a ∈ f2, a ∈ fa ++ fr
  | [], ρ, ρ2, fr, fa, g, vs, es, os, es', r, h, hl, np, ho, s, nd, off, hp => by
    simp [looks] at hl; subst hl
    cases os with
    | nil =>
      have : ρ = ρ2 := by simpa [puts] using hp
      subst this
      exact ⟨fr, r, fun a ha => List.mem_append_right _ ha⟩
    | cons o os => simp [puts] at hp
  | .val e :: as, ρ, ρ2, fr, fa, g, vs, es, os, es', r, h, hl, np, ho, s, nd, off, hp => by
    obtain ⟨x, xr, g1, g2, rfl, rfl, h1, h2⟩ := h
    unfold looks at hl
    cases e2 : looks ρ as with
    | none => rw [e2] at hl; cases hl
    | some es0 =>
      rw [e2] at hl
      have hl : e :: es0 = es := Option.some.inj hl
      subst hl
      have ho : (outE (as.map AV.isPk) es0 os).map (none :: ·) = some es' := ho
      obtain ⟨es1, h3, rfl⟩ := Option.map_eq_some_iff.mp ho
      obtain ⟨f1, f2, rfl, z, s2⟩ := s
      have z : f1 = [] := z
      subst z
      exact call_out (show Rep K F H σ (kills ρ as) fr from r) h2 e2 np h3 s2 nd off hp
  | .pk i :: as, ρ, ρ2, fr, fa, g, vs, es, os, es', r, h, hl, np, ho, s, nd, off, hp => by
    obtain ⟨x, xr, g1, g2, rfl, rfl, ⟨rfl, h1⟩, h2⟩ := h
    unfold looks at hl
    cases e1 : Rho.at ρ i with
    | none => simp [AV.look, e1] at hl
    | some e =>
      cases e2 : looks ρ as with
      | none => simp [e2] at hl
      | some es0 =>
        simp only [AV.look, e1, e2] at hl
        have hl : e :: es0 = es := Option.some.inj hl
        subst hl
        obtain ⟨n1, n2⟩ := List.nodup_cons.mp (show (i :: pkI as).Nodup from np)
        cases os with
        | nil => simp [puts] at hp
        | cons o os =>
          have ho : (outE (as.map AV.isPk) es0 os).map (some ⟨e.p, o⟩ :: ·) = some es' := ho
          obtain ⟨es1, h3, rfl⟩ := Option.map_eq_some_iff.mp ho
          obtain ⟨f1, f2, rfl, ⟨v, ev, s1⟩, s2⟩ := s
          have ev : x = v := Option.some.inj ev
          subst ev
          simp only [puts, e1] at hp
          have hi : i < ρ.length := by
            have := at_some e1
            exact (List.getElem?_eq_some_iff.mp this).1
          -- the name is put back
          have r' : Rep K F H σ ((kills ρ as).set i none) fr := by
            have := r
            rw [kills, kills_set n1] at this
            exact this
          rw [List.append_assoc] at nd
          obtain ⟨m1, m2, m3⟩ := List.nodup_append.mp nd
          obtain ⟨m4, m5, m6⟩ := List.nodup_append.mp m2
          have nd1 : (f1 ++ fr).Nodup := List.nodup_append.mpr ⟨m1, m5, fun a ha b hb => m3 a ha b (List.mem_append_right _ hb)⟩
          obtain ⟨fr', p', r2⟩ := r'.inn (i := i) (o := some x) (e := some ⟨e.p, o⟩) (g := f1) (by simp [hi, kills_length]) ⟨x, rfl, s1⟩ nd1 fun a ha => off a (List.mem_append_left _ ha)
          rw [set_idem, ← kills_set n1, set_self h1] at r2
          have nd2 : (f2 ++ fr').Nodup := by
            refine List.nodup_append.mpr ⟨m4, r2.nd, fun a ha b hb e => ?_⟩
            subst e
            rcases List.mem_append.mp (p'.mem_iff.mp hb) with z | z
            · exact m3 a z a (List.mem_append_left _ ha) rfl
            · exact m6 a ha a z rfl
          obtain ⟨f3, r3, k3⟩ := call_out r2 h2 (by rw [look_set n1]; exact e2) n2 h3 s2 nd2 (fun a ha => off a (List.mem_append_right _ ha)) hp
          refine ⟨f3, r3, fun a ha => ?_⟩
          rw [List.append_assoc]
          rcases List.mem_append.mp (k3 a ha) with z | z
          · exact List.mem_append_right _ (List.mem_append_left _ z)
          · rcases List.mem_append.mp (p'.mem_iff.mp z) with z | z
            · exact List.mem_append_left _ z
            · exact List.mem_append_right _ (List.mem_append_right _ z)
end
section
variable {Φ : String → Spec} {X : Cx} {W : WX}
theorem looks_sub {ρ : Rho} : ∀ {as : List AV} {es : List Ety}, looks ρ as = some es → (as.map AV.isPk).length = es.length
  | [], es, h => by simp [looks] at h; subst h; rfl
  | a :: as, es, h => by
    unfold looks at h
    cases e1 : a.look ρ with
    | none => rw [e1] at h; cases h
    | some e =>
      cases e2 : looks ρ as with
      | none => rw [e1, e2] at h; cases h
      | some es' =>
        rw [e1, e2] at h
        have h : e :: es' = es := Option.some.inj h
        subst h
        simpa using looks_sub e2
theorem AvA.len {K : PySem.W.Frag} {F : Addr → Prop} {H : Hp} {σ : L2.St} : ∀ {as : List AV} {vs : List V} {g : List Addr}, AvA K F H σ as vs g → vs.length = as.length
  | [], vs, g, h => by rw [h.1]; rfl
  | a :: as, vs, g, h => by
    obtain ⟨x, xr, g1, g2, rfl, rfl, h1, h2⟩ := h
    simp [AvA.len h2]
theorem i_call {fn : String} {cs : Es} {n : Nat} (hn : ∀ ios es Q xe, Φ fn ios es Q xe → es.length = n) {σ : L2.St} {H : Hp} {Q' : VK} : tE Φ X W (.call fn cs) σ H Q' → tCallS (spOf X.K X.mg n (Φ fn)) (fun σ => WE W σ) (tEs Φ X W cs) σ H Q' := fun ⟨F, ρ, f, Q, xe, r, xo, w, k⟩ => by
  simp only [wpE] at w
  refine ⟨F, ρ, f, _, xe, r, xo, w, fun vs F1 H1 as ρ1 f1 g1 fin1 o1 q1 => ?_⟩
  obtain ⟨es, e1, np, q⟩ := onO_some q1
  obtain ⟨fa, fr, k1, k2, k3, k4⟩ := call_in fin1.rep o1 fin1.nd e1 np
  have offg : ∀ b ∈ fa, ¬ F1 b := fun b hb => by
    rcases List.mem_append.mp (k4 b (List.mem_append_left _ hb)) with z | z
    · exact fin1.off b z
    · exact fin1.rep.off b z
  have apart : ∀ b ∈ fr, b ∉ fa := fun b hb z => (List.nodup_append.mp k3).2.2 b z b hb rfl
  have lstA : ∀ b ∈ fa, Mu H1 b := k1.lst
  have sub1 : ∀ b ∈ fa ++ fr, b ∈ f ∨ H b = none := fun b hb => fin1.sub b (k4 b hb)
  refine ⟨?_, F1, es, fa, as.map AV.isPk, _, _, ⟨k1, (List.nodup_append.mp k3).1, offg, fin1.rep.there⟩, q, ?_, ?_⟩
  · rw [← hn _ _ _ _ q, ← looks_sub e1, o1.len, List.length_map]
  · intro e2 os es' F2 H2 f2 g2 v h1 h2 nd2 off2 sub2 ow2 c2 q2
    obtain ⟨ρ3, e3, q3⟩ := onO_some q2
    -- the caller's own names stay
    have r3 : Rep X.K F2 H2 σ (kills ρ1 as) fr := ⟨k2.sl.chg c2 offg lstA apart, k2.nd, fun b hb z => by
      rcases c2.new b z with y | y | y
      · exact k2.off b hb y
      · exact apart b hb y
      · exact k2.ne hb y, h2.there⟩
    have nf : ∀ b ∈ fr, b ∉ g2 ++ f2 := fun b hb z => by
      rcases sub2 b z with y | y
      · exact apart b hb y
      · exact k2.ne hb y
    have nd4 : (f2 ++ fr).Nodup := List.nodup_append.mpr ⟨h2.nd, k2.nd, fun b hb c hc e => by subst e; exact nf b hc (List.mem_append_right _ hb)⟩
    obtain ⟨f4, r4, k5⟩ := call_out r3 o1 e1 np h1 h2.sl nd4 h2.off e3
    have back : ∀ b, b ∈ fa ∨ H1 b = none → b ∈ f ∨ H b = none := fun b hb => by
      rcases hb with z | z
      · exact sub1 b (List.mem_append_left _ z)
      · refine .inr ?_
        cases e : H b with
        | none => rfl
        | some o => exact absurd z (fin1.chg.dom b (by rw [e]; simp))
    refine k v F2 H2 e2 ρ3 f4 g2 ⟨r4, ?_, off2, fun b hb => ?_, Ow.lst _ _ _ _ ow2, fin1.chg.trans c2 fun b hb => sub1 b (List.mem_append_left _ hb)⟩ ow2 q3
    · refine List.nodup_append.mpr ⟨(List.nodup_append.mp nd2).1, r4.nd, fun b hb c hc e => ?_⟩
      subst e
      rcases List.mem_append.mp (k5 b hc) with z | z
      · exact (List.nodup_append.mp nd2).2.2 b hb b z rfl
      · exact nf b z (List.mem_append_left _ hb)
    · rcases List.mem_append.mp hb with z | z
      · exact back b (sub2 b (List.mem_append_left _ z))
      · rcases List.mem_append.mp (k5 b z) with z | z
        · exact back b (sub2 b (List.mem_append_right _ z))
        · exact sub1 b (List.mem_append_right _ z)
  · intro y F2 H2 cls d c2 th ex q2
    have r3 : Rep X.K F2 H2 σ (kills ρ1 as) fr := ⟨k2.sl.chg c2 offg lstA apart, k2.nd, fun b hb z => by
      rcases c2.new b z with y | y | y
      · exact k2.off b hb y
      · exact apart b hb y
      · exact k2.ne hb y, th⟩
    exact xo y _ F2 H2 fr cls d r3 (fun b hb => sub1 b (List.mem_append_right _ hb)) (fin1.chg.trans c2 fun b hb => sub1 b (List.mem_append_left _ hb)) ex q2
/-- a def of the text is called -/
theorem s_call {fs : Fs} {fn : String} {x : Str} {p pos : Pos} {e : Expr} {es0 : List Expr} {cs : Es} (G : Gd fs Φ X W) (hf : fn ∈ fs.defs) (hx : x = Str.ofString fn) (hg : Gl X x) (ho : okName x = true) (h : PA X (e :: es0) (tEs Φ X W cs))
    (he : starEach (e :: es0) X.env = (false, eval e X.env) :: starEach es0 X.env) (hpl : (backTo pos (starEach es0 X.env)).any (·.1) = false) : PE X (.Call (.Name x p) (e :: es0) [] pos) (tE Φ X W (.call fn cs)) := by
  obtain ⟨a, fd, kk, n, ps, hm, _, hk, hb, hn, hr, FO⟩ := G.fn fn hf
  exact PE.imp (pe_callS (E := fun σ => WE W σ) FO hr hg (by rw [hx]; exact hm) hk hb (fun σ => passAt G.tk σ) h (okName_of ho).1 he hpl) fun σ H Q' z => i_call hn z
end
end MS
namespace MS
open PySem PySem.Spec PyProof.Rows L2
section
variable {Φ : String → Spec} {X : Cx} {W : WX}
theorem s_and {a b : Expr} {rest : List Expr} {c1 c2 : E} {pos : Pos} (h1 : PE X a (tE Φ X W c1)) (h2 : PE X (.BoolOp .And (b :: rest) pos) (tE Φ X W c2)) : PE X (.BoolOp .And (a :: b :: rest) pos) (tE Φ X W (.and c1 c2)) :=
  PE.imp (pe_and h1 h2) fun σ H Q' ⟨F, ρ, f, Q, xe, r, x, w, k⟩ => by
    simp only [wpE] at w
    refine ⟨F, ρ, f, _, xe, r, x, w, fun v F1 H1 e1 ρ1 f1 g1 fin1 o1 q1 => ?_⟩
    obtain ⟨t, ht, q⟩ := isBool_some q1
    rw [ht] at o1
    refine ⟨t, o1.bl, ?_⟩
    cases t with
    | true => exact ⟨F1, ρ1, f1, Q, xe, fin1.rep, x.fin fin1, q, fun v F2 H2 e2 ρ2 f2 g2 fin2 o2 q2 => k v F2 H2 e2 ρ2 f2 g2 (fin1.trans' fin2) o2 q2⟩
    | false => exact k _ F1 H1 _ ρ1 f1 [] fin1.drop (Ow_sh.mpr ⟨rfl, dv_bl⟩) q
theorem s_or {a b : Expr} {rest : List Expr} {c1 c2 : E} {pos : Pos} (h1 : PE X a (tE Φ X W c1)) (h2 : PE X (.BoolOp .Or (b :: rest) pos) (tE Φ X W c2)) : PE X (.BoolOp .Or (a :: b :: rest) pos) (tE Φ X W (.or c1 c2)) :=
  PE.imp (pe_or h1 h2) fun σ H Q' ⟨F, ρ, f, Q, xe, r, x, w, k⟩ => by
    simp only [wpE] at w
    refine ⟨F, ρ, f, _, xe, r, x, w, fun v F1 H1 e1 ρ1 f1 g1 fin1 o1 q1 => ?_⟩
    obtain ⟨t, ht, q⟩ := isBool_some q1
    rw [ht] at o1
    refine ⟨t, o1.bl, ?_⟩
    cases t with
    | false => exact ⟨F1, ρ1, f1, Q, xe, fin1.rep, x.fin fin1, q, fun v F2 H2 e2 ρ2 f2 g2 fin2 o2 q2 => k v F2 H2 e2 ρ2 f2 g2 (fin1.trans' fin2) o2 q2⟩
    | true => exact k _ F1 H1 _ ρ1 f1 [] fin1.drop (Ow_sh.mpr ⟨rfl, dv_bl⟩) q
theorem s_not {a : Expr} {c1 : E} {pos : Pos} (h1 : PE X a (tE Φ X W c1)) : PE X (.UnaryOp .Not a pos) (tE Φ X W (.not c1)) :=
  PE.imp (pe_not h1) fun σ H Q' ⟨F, ρ, f, Q, xe, r, x, w, k⟩ => by
    simp only [wpE] at w
    refine ⟨F, ρ, f, _, xe, r, x, w, fun v F1 H1 e1 ρ1 f1 g1 fin1 o1 q1 => ?_⟩
    obtain ⟨t, ht, q⟩ := isBool_some q1
    rw [ht] at o1
    exact ⟨t, o1.bl, k _ F1 H1 _ ρ1 f1 [] fin1.drop (Ow_sh.mpr ⟨rfl, dv_bl⟩) q⟩
theorem s_ite {c a b : Expr} {c1 c2 c3 : E} {pos : Pos} (h1 : PT X c (tTst Φ X W c1)) (h2 : PE X a (tE Φ X W c2)) (h3 : PE X b (tE Φ X W c3)) : PE X (.IfExp c a b pos) (tE Φ X W (.ite c1 c2 c3)) :=
  PE.imp (pe_ifExp h1 h2 h3) fun σ H Q' ⟨F, ρ, f, Q, xe, r, x, w, k⟩ => by
    simp only [wpE] at w
    refine ⟨F, ρ, f, _, xe, r, x, w, fun t F1 H1 ρ1 f1 fin1 q => ?_⟩
    cases t with
    | true => exact ⟨F1, ρ1, f1, Q, xe, fin1.rep, x.fin fin1, q, fun v F2 H2 e2 ρ2 f2 g2 fin2 o2 q2 => k v F2 H2 e2 ρ2 f2 g2 (fin1.trans' fin2) o2 q2⟩
    | false => exact ⟨F1, ρ1, f1, Q, xe, fin1.rep, x.fin fin1, q, fun v F2 H2 e2 ρ2 f2 g2 fin2 o2 q2 => k v F2 H2 e2 ρ2 f2 g2 (fin1.trans' fin2) o2 q2⟩
/-- tests -/
theorem t_and {a b : Expr} {rest : List Expr} {c1 c2 : E} {pos : Pos} (h1 : PT X a (tTst Φ X W c1)) (h2 : PW X (.BoolOp .And (b :: rest) pos) (tTst Φ X W c2)) : PW X (.BoolOp .And (a :: b :: rest) pos) (tTst Φ X W (.and c1 c2)) :=
  ⟨fun wh pins s σ H Q' I ⟨F, ρ, f, Q, xe, r, x, w, k⟩ => (pw_and h1 h2).run wh pins s σ H Q' I (by
    simp only [wpE] at w
    refine ⟨F, ρ, f, _, xe, r, x, w, fun t F1 H1 ρ1 f1 fin1 q => ?_⟩
    cases t with
    | true => exact ⟨F1, ρ1, f1, Q, xe, fin1.rep, x.fin fin1, q, fun b F2 H2 ρ2 f2 fin2 q2 => k b F2 H2 ρ2 f2 (fin1.trans' fin2) q2⟩
    | false => exact k false F1 H1 ρ1 f1 fin1 q)⟩
theorem t_or {a b : Expr} {rest : List Expr} {c1 c2 : E} {pos : Pos} (h1 : PT X a (tTst Φ X W c1)) (h2 : PW X (.BoolOp .Or (b :: rest) pos) (tTst Φ X W c2)) : PW X (.BoolOp .Or (a :: b :: rest) pos) (tTst Φ X W (.or c1 c2)) :=
  ⟨fun wh pins s σ H Q' I ⟨F, ρ, f, Q, xe, r, x, w, k⟩ => (pw_or h1 h2).run wh pins s σ H Q' I (by
    simp only [wpE] at w
    refine ⟨F, ρ, f, _, xe, r, x, w, fun t F1 H1 ρ1 f1 fin1 q => ?_⟩
    cases t with
    | false => exact ⟨F1, ρ1, f1, Q, xe, fin1.rep, x.fin fin1, q, fun b F2 H2 ρ2 f2 fin2 q2 => k b F2 H2 ρ2 f2 (fin1.trans' fin2) q2⟩
    | true => exact k true F1 H1 ρ1 f1 fin1 q)⟩
theorem t_not {a : Expr} {c1 : E} {pos : Pos} (h1 : PT X a (tTst Φ X W c1)) : PT X (.UnaryOp .Not a pos) (tTst Φ X W (.not c1)) :=
  PT.imp (pt_not h1) fun σ H Q' ⟨F, ρ, f, Q, xe, r, x, w, k⟩ => by
    simp only [wpE] at w
    refine ⟨F, ρ, f, _, xe, r, x, w, fun t F1 H1 ρ1 f1 fin1 q => ?_⟩
    exact k (!t) F1 H1 ρ1 f1 fin1 q
/-- a chain of two comparisons of ints -/
theorem i_chain {r1 r2 : R2} {o1 o2 : Prim} {c1 c2 c3 : E} (h1 : ∀ (F : Addr → Prop) (H : Hp) (e1 e2 : Ety) (v1 v2 : V) (g1 g2 : List Addr) (Q : Ety → Prop), Ow X.K F H e1.d e1.p v1 g1 → Ow X.K F H e2.d e2.p v2 g2 → wpP o1 [e1, e2] Q → r1 v1 v2 H (Res X.K F H Q))
    (h2 : ∀ (F : Addr → Prop) (H : Hp) (e1 e2 : Ety) (v1 v2 : V) (g1 g2 : List Addr) (Q : Ety → Prop), Ow X.K F H e1.d e1.p v1 g1 → Ow X.K F H e2.d e2.p v2 g2 → wpP o2 [e1, e2] Q → r2 v1 v2 H (Res X.K F H Q))
    (σ : L2.St) (H : Hp) (Q' : VK) : tE Φ X W (.chain o1 o2 c1 c2 c3) σ H Q' → tChain (rCl r1) (rCl r2) (tE Φ X W c1) (tE Φ X W c2) (tE Φ X W c3) σ H Q' := fun ⟨F, ρ, f, Q, xe, r, x, w, k⟩ => by
  simp only [wpE] at w
  refine ⟨F, ρ, f, _, xe, r, x, w, fun v1 F1 H1 e1 ρ1 f1 g1 fin1 ow1 q1 => ?_⟩
  refine ⟨F1, ρ1, f1, _, xe, fin1.rep, x.fin fin1, q1, fun v2 F2 H2 e2 ρ2 f2 g2 fin2 ow2 q2 => ?_⟩
  have ow1' : Ow X.K F2 H2 e1.d e1.p v1 g1 := Ow.chg fin2.chg fin1.rep.off fin1.rep.lst _ _ _ _ fin1.apart ow1
  have fin12 := fin1.trans' fin2
  refine ⟨_, h1 F2 H2 e1 e2 v1 v2 g1 g2 _ ow1' ow2 q2, fun v H3 z => ?_⟩
  obtain ⟨e3, g3, fin3, ow3, q3⟩ := fin12.res z
  obtain ⟨t, ht, q3⟩ := isBool_some q3
  rw [ht] at ow3
  refine ⟨t, ow3.bl, ?_⟩
  have ow2' : Ow X.K F2 H3 e2.d e2.p v2 g2 := by
    obtain ⟨_, _, c, _⟩ := z
    exact Ow.chg c (by simp) (by simp) _ _ _ _ (by simp) ow2
  cases t with
  | false => exact k _ F2 H3 _ ρ2 f2 [] fin3.drop (Ow_sh.mpr ⟨rfl, dv_bl⟩) q3
  | true =>
    refine ⟨F2, ρ2, f2, _, xe, fin3.rep, x.fin fin3, q3, fun v4 F4 H4 e4 ρ4 f4 g4 fin4 ow4 q4 => ?_⟩
    have ow2'' : Ow X.K F4 H4 e2.d e2.p v2 g2 := Ow.chg fin4.chg fin3.rep.off fin3.rep.lst _ _ _ _ (fun a ha => fin12.apart a ha) ow2'
    refine ⟨_, h2 F4 H4 e2 e4 v2 v4 g2 g4 _ ow2'' ow4 q4, fun v H5 z => ?_⟩
    obtain ⟨e, g, fin', o, q'⟩ := (fin3.trans' fin4).res z
    exact k v F4 H5 e ρ4 f4 g fin' o q'
theorem s_chain {p1 p2 : CmpOp} {o1 o2 : Prim} {a b c : Expr} {c1 c2 c3 : E} {pos : Pos} (hb1 : BinOk X (compareOp p1) (wpP o1)) (hb2 : BinOk X (compareOp p2) (wpP o2)) (hm : lastMarks [p1, p2] [b, c] = false)
    (h1 : PE X a (tE Φ X W c1)) (h2 : PE X b (tE Φ X W c2)) (h3 : PE X c (tE Φ X W c3)) : PE X (.Compare a [p1, p2] [b, c] pos) (tE Φ X W (.chain o1 o2 c1 c2 c3)) ∧ PT X (.Compare a [p1, p2] [b, c] pos) (tTst Φ X W (.chain o1 o2 c1 c2 c3)) := by
  obtain ⟨r1, ho1, hr1⟩ := hb1
  obtain ⟨r2, ho2, hr2⟩ := hb2
  exact ⟨PE.imp (pe_chain (opR_cl ho1) (opR_cl ho2) h1 h2 h3 hm) (i_chain hr1 hr2), PT.imp (pt_chain (opR_cl ho1) (opR_cl ho2) h1 h2 h3 hm) fun _ _ _ z => i_chain hr1 hr2 _ _ _ (tTst_tE z)⟩
end
end MS
namespace MS
open PySem PySem.Spec PyProof.Rows L2
section
variable {K : PySem.W.Frag} {F F' : Addr → Prop} {H H' : Hp}
theorem clear_length (ρ : Rho) : ∀ vs : List Nat, (clear vs ρ).length = ρ.length
  | [] => rfl
  | v :: vs => by unfold clear; rw [List.length_set, clear_length ρ vs]
theorem clear_none {ρ : Rho} {i : Nat} : ∀ {vs : List Nat}, i ∈ vs → i < ρ.length → (clear vs ρ)[i]? = some none
  | [], h, _ => nomatch h
  | v :: vs, h, hi => by
    unfold clear
    by_cases e : v = i
    · subst e
      rw [List.getElem?_set_self (by rw [clear_length]; exact hi)]
    · rw [List.getElem?_set_ne e]
      exact clear_none (by rcases List.mem_cons.mp h with z | z; exact absurd z.symm e; exact z) hi
theorem Rep.clr {σ : L2.St} {ρ : Rho} {f : List Addr} (r : Rep K F H σ ρ f) : ∀ vs : List Nat, ∃ f', (∀ a ∈ f', a ∈ f) ∧ Rep K F H σ (clear vs ρ) f'
  | [] => ⟨f, fun _ h => h, r⟩
  | v :: vs => by
    obtain ⟨f1, h1, r1⟩ := r.clr vs
    obtain ⟨f2, h2, r2⟩ := r1.drop (i := v)
    exact ⟨f2, fun a ha => h1 a (h2 a ha), r2⟩
theorem Slots.congr : ∀ {σ σ' : L2.St} {ρ : Rho} {f : List Addr}, σ'.length = σ.length → (∀ i : Nat, ρ[i]? = some none ∨ σ[i]? = σ'[i]?) → Slots K F H σ ρ f → Slots K F H σ' ρ f
  | [], [], [], f, _, _, h => h
  | [], _ :: _, _, _, hl, _, _ => by simp at hl
  | _ :: _, [], _, _, hl, _, _ => by simp at hl
  | o :: σ, o' :: σ', e :: ρ, f, hl, hc, h => by
    obtain ⟨f1, f2, rfl, h1, h2⟩ := h
    refine ⟨f1, f2, rfl, ?_, Slots.congr (by simpa using hl) (fun i => by simpa using hc (i + 1)) h2⟩
    rcases hc 0 with z | z
    · have z : e = none := by simpa using z
      subst z
      exact h1
    · have z : o = o' := by simpa using z
      subst z
      exact h1
  | [], [], _ :: _, _, _, _, h => h.elim
  | _ :: _, _ :: _, [], _, _, _, h => h.elim
theorem wipe_out' {σ : L2.St} {i : Nat} {vs : List Nat} (h : i ∉ vs) : (wipe σ vs)[i]? = σ[i]? := wipe_out h
theorem Rep.re {σ σ' : L2.St} {ρ : Rho} {f : List Addr} {vs : List Nat} (r : Rep K F H σ (clear vs ρ) f) (hw : wipe σ vs = wipe σ' vs) : Rep K F H σ' (clear vs ρ) f := by
  have hl : σ'.length = σ.length := by
    have := congrArg List.length hw
    rw [wipe_length, wipe_length] at this
    exact this.symm
  refine ⟨r.sl.congr hl fun i => ?_, r.nd, r.off, r.there⟩
  by_cases hi : i ∈ vs
  · by_cases hb : i < ρ.length
    · exact .inl (clear_none hi hb)
    · have h1 := r.sl.length
      rw [clear_length] at h1
      right
      rw [List.getElem?_eq_none (by omega), List.getElem?_eq_none (by omega)]
  · right
    rw [← wipe_out' (σ := σ) hi, ← wipe_out' (σ := σ') hi, hw]
theorem wipe_set {σ : L2.St} {i : Nat} {v : Option V} : ∀ {vs : List Nat}, i ∈ vs → wipe (σ.set i v) vs = wipe σ vs
  | [], h => nomatch h
  | w :: vs, h => by
    unfold wipe
    by_cases e : i ∈ vs
    · rw [wipe_set e]
    · have e' : i = w := by rcases List.mem_cons.mp h with z | z; exact z; exact absurd z e
      subst e'
      have aux : ∀ {us : List Nat}, i ∉ us → wipe (σ.set i v) us = (wipe σ us).set i v := by
        intro us
        induction us with
        | nil => intro _; rfl
        | cons u us ih =>
          intro hn
          have hn' : i ≠ u ∧ i ∉ us := by simpa using hn
          unfold wipe
          rw [ih hn'.2, List.set_comm _ _ hn'.1]
      rw [aux e, List.set_set]
theorem wipe_wipe {σ : L2.St} (vs : List Nat) : wipe (wipe σ vs) vs = wipe σ vs := by
  have aux : ∀ us : List Nat, (∀ u ∈ us, u ∈ vs) → wipe (wipe σ us) vs = wipe σ vs := by
    intro us
    induction us with
    | nil => intro _; rfl
    | cons u us ih =>
      intro h
      show wipe ((wipe σ us).set u none) vs = _
      rw [wipe_set (h u (by simp))]
      exact ih fun x hx => h x (by simp [hx])
  exact aux vs fun _ h => h
/-- a target takes a shared datum -/
theorem Rep.setSh {σ : L2.St} {ρ : Rho} {f : List Addr} {i : Nat} {d : D} {v : V} (r : Rep K F H σ ρ f) (hi : i < ρ.length) (h : Dv K F H d v) : ∃ f', (∀ a ∈ f', a ∈ f) ∧ Rep K F H (σ.set i (some v)) (ρ.set i (some (sh d))) f' := by
  obtain ⟨f', h1, r'⟩ := r.put (i := i) (v := v) (e := sh d) (g := []) hi (Ow_sh.mpr ⟨rfl, h⟩) (by simpa using r.nd) (by simp)
  exact ⟨f', fun a ha => by simpa using h1 a ha, r'⟩
/-- the reading of a target -/
def gTg (K : PySem.W.Frag) : Tg → TG
  | .name i => gName i
  | .tup is => gTup K is.length (is.foldr (fun i t => gCons (gName i) t) gNil)
theorem bind_go {ρ' : Rho} : ∀ (is : List Nat) (ds : List D) (xs : List V) (σ : L2.St) (ρ : Rho) (f : List Addr) (P : L2.St → Hp → Prop), Rep K F H σ ρ f → DvA K F H ds xs → setAll is ds ρ = some ρ' → (∀ i ∈ is, i < ρ.length) →
          (∀ σ' f', (∀ a ∈ f', a ∈ f) → Rep K F H σ' ρ' f' → (∀ vs, (∀ i ∈ is, i ∈ vs) → wipe σ' vs = wipe σ vs) → (∀ i, i ∉ is → σ'[i]? = σ[i]?) → P σ' H) → xs.length = is.length ∧ (is.foldr (fun i t => gCons (gName i) t) gNil) xs σ H P := by
  intro is
  induction is with
  | nil =>
    intro ds xs σ ρ f P r h2 hb hi k
    cases ds with
    | nil =>
      rw [DvA_nil] at h2; subst h2
      have hb : some ρ = some ρ' := hb
      cases hb
      exact ⟨rfl, rfl, k σ f (fun _ h => h) r (fun _ _ => rfl) fun _ _ => rfl⟩
    | cons d ds => simp [setAll] at hb
  | cons i is ih =>
    intro ds xs σ ρ f P r h2 hb hi k
    cases ds with
    | nil => simp [setAll] at hb
    | cons d ds =>
      obtain ⟨x, xr, rfl, h3, h4⟩ := DvA_cons.mp h2
      obtain ⟨f1, k1, r1⟩ := r.setSh (hi i (by simp)) h3
      obtain ⟨l, g⟩ := ih ds xr _ _ f1 P r1 h4 hb (fun j hj => by rw [List.length_set]; exact hi j (by simp [hj])) fun σ' f' k2 r2 w2 n2 => k σ' f' (fun a ha => k1 a (k2 a ha)) r2
        (fun vs hv => by rw [w2 vs fun j hj => hv j (by simp [hj])]; exact wipe_set (hv i (by simp)))
        fun j hj => by
          have hj' : j ≠ i ∧ j ∉ is := by simpa using hj
          rw [n2 j hj'.2, List.getElem?_set_ne (Ne.symm hj'.1)]
      exact ⟨by simp [l], x, xr, rfl, g⟩
theorem bind_ok {σ : L2.St} {ρ ρ' : Rho} {f : List Addr} {t : Tg} {d : D} {v : V} {Q : L2.St → Hp → Prop} (r : Rep K F H σ ρ f) (h : Dv K F H d v) (hb : t.bind d ρ = some ρ') (hi : ∀ i ∈ t.slots, i < ρ.length)
    (k : ∀ σ' f', (∀ a ∈ f', a ∈ f) → Rep K F H σ' ρ' f' → (∀ vs, (∀ i ∈ t.slots, i ∈ vs) → wipe σ' vs = wipe σ vs) → (∀ i, i ∉ t.slots → σ'[i]? = σ[i]?) → Q σ' H) : gTg K t v σ H Q := by
  cases t with
  | name i =>
    have hb : some (ρ.set i (some (sh d))) = some ρ' := hb
    cases hb
    obtain ⟨f', h1, r'⟩ := r.setSh (hi i (by simp [Tg.slots])) h
    exact k _ f' h1 r' (fun vs hv => wipe_set (hv i (by simp [Tg.slots]))) fun j hj => List.getElem?_set_ne (by simp [Tg.slots] at hj; exact fun e => hj e.symm)
  | tup is =>
    cases d with
    | tuple ds =>
      simp only [Dv] at h
      obtain ⟨a, xs, rfl, h1, h2⟩ := h
      have hb : setAll is ds ρ = some ρ' := hb
      obtain ⟨l, g⟩ := bind_go is ds xs σ ρ f Q r h2 hb hi k
      exact ⟨a, xs, rfl, h1, l, g⟩
    | _ => simp [Tg.bind] at hb
/-- the reading of names that take a list's items -/
def gTgL (K : PySem.W.Frag) (is : List Nat) : TG := gUnl K is.length (is.foldr (fun i t => gCons (gName i) t) gNil)
theorem bindL_ok {σ : L2.St} {ρ ρ' : Rho} {f : List Addr} {is : List Nat} {ds : List D} {a : Addr} {xs : List V} {Q : L2.St → Hp → Prop} (r : Rep K F H σ ρ f) (h1 : SqL K H a xs) (h2 : DvA K F H ds xs) (hb : setAll is ds ρ = some ρ') (hi : ∀ i ∈ is, i < ρ.length)
    (k : ∀ σ' f', (∀ a ∈ f', a ∈ f) → Rep K F H σ' ρ' f' → (∀ vs, (∀ i ∈ is, i ∈ vs) → wipe σ' vs = wipe σ vs) → (∀ i, i ∉ is → σ'[i]? = σ[i]?) → Q σ' H) : gTgL K is (.ref a) σ H Q := by
  obtain ⟨l, g⟩ := bind_go is ds xs σ ρ f Q r h2 hb hi k
  exact ⟨a, xs, rfl, h1, l, g⟩
end
section
variable {Φ : String → Spec} {X : Cx} {W : WX}
theorem okT1_of {sc : Scope} {N : List Str} {i : Nat} {e : Expr} (h : okT1 sc N i e = true) : ∃ x pos, e = .Name x pos ∧ N[i]? = some x ∧ Loc sc x := by
  unfold okT1 at h
  split at h
  · simp only [Bool.and_eq_true, decide_eq_true_eq] at h
    exact ⟨_, _, rfl, h.1, loc_of h.2⟩
  · cases h
theorem okTs_len {sc : Scope} {N : List Str} : ∀ {is : List Nat} {es : List Expr}, okTs sc N is es = true → is.length = es.length
  | [], [], _ => rfl
  | i :: is, e :: es, h => by
    simp only [okTs, Bool.and_eq_true] at h
    simp [okTs_len h.2]
  | [], _ :: _, h => by simp [okTs] at h
  | _ :: _, [], h => by simp [okTs] at h
theorem each_name {env : Env} : ∀ {sc : Scope} {N : List Str} {is : List Nat} {es : List Expr}, okTs sc N is es = true → assignEach es env = es.map fun e => (false, assign e env)
  | _, _, [], [], _ => rfl
  | sc, N, i :: is, e :: es, h => by
    simp only [okTs, Bool.and_eq_true] at h
    obtain ⟨x, pos, rfl, _, _⟩ := okT1_of h.1
    have ih := each_name (env := env) h.2
    simp only [List.map_cons]
    rw [← ih]
    rfl
  | _, _, [], _ :: _, h => by simp [okTs] at h
  | _, _, _ :: _, [], h => by simp [okTs] at h
theorem pg_ok {t : Tg} {tg : Expr} {sc : Scope} (hc : X.calm = true) (nd : X.N.Nodup) (hl : ∀ x, Loc sc x → Loc X.env.scope x ∧ (X.fn x = true ∨ X.env.scope.names.lookup x = some .local)) (h : okT sc X.N t tg = true) : PG X tg (gTg X.K t) := by
  cases t with
  | name i =>
    obtain ⟨x, pos, rfl, h1, h2⟩ := okT1_of (show okT1 sc X.N i tg = true from h)
    exact pg_name nd h1 (hl _ h2).1 (hl _ h2).2
  | tup is =>
    cases tg with
    | Tuple es k pos =>
      have h : okTs sc X.N is es = true := h
      have go : ∀ (is : List Nat) (es : List Expr), okTs sc X.N is es = true → PGs X es (is.foldr (fun i t => gCons (gName i) t) gNil) := by
        intro is
        induction is with
        | nil =>
          intro es h
          cases es with
          | nil => exact pgs_nil
          | cons e es => simp [okTs] at h
        | cons i is ih =>
          intro es h
          cases es with
          | nil => simp [okTs] at h
          | cons e es =>
            have h' := h
            simp only [okTs, Bool.and_eq_true] at h
            obtain ⟨x, pos, rfl, h1, h2⟩ := okT1_of h.1
            refine pgs_cons (pg_name nd h1 (hl _ h2).1 (hl _ h2).2) (ih es h.2) ?_
            rw [each_name h', each_name h.2]
            rfl
      refine pg_tup hc (go is es h) ?_ ?_
      · rw [each_name h, List.length_map, okTs_len h]
      · rw [each_name h]
        rw [List.findIdx?_eq_none_iff]
        intro a ha
        obtain ⟨e, _, rfl⟩ := List.mem_map.mp ha
        rfl
    | _ => simp [okT] at h
theorem pg_okL {is : List Nat} {es : List Expr} {k : Nat} {pos : Pos} {sc : Scope} (hc : X.calm = true) (nd : X.N.Nodup) (hl : ∀ x, Loc sc x → Loc X.env.scope x ∧ (X.fn x = true ∨ X.env.scope.names.lookup x = some .local)) (h : okTs sc X.N is es = true) : PG X (.Tuple es k pos) (gTgL X.K is) := by
      have h : okTs sc X.N is es = true := h
      have go : ∀ (is : List Nat) (es : List Expr), okTs sc X.N is es = true → PGs X es (is.foldr (fun i t => gCons (gName i) t) gNil) := by
        intro is
        induction is with
        | nil =>
          intro es h
          cases es with
          | nil => exact pgs_nil
          | cons e es => simp [okTs] at h
        | cons i is ih =>
          intro es h
          cases es with
          | nil => simp [okTs] at h
          | cons e es =>
            have h' := h
            simp only [okTs, Bool.and_eq_true] at h
            obtain ⟨x, pos, rfl, h1, h2⟩ := okT1_of h.1
            refine pgs_cons (pg_name nd h1 (hl _ h2).1 (hl _ h2).2) (ih es h.2) ?_
            rw [each_name h', each_name h.2]
            rfl
      refine pg_unl hc (go is es h) ?_ ?_
      · rw [each_name h, List.length_map, okTs_len h]
      · rw [each_name h]
        rw [List.findIdx?_eq_none_iff]
        intro a ha
        obtain ⟨e, _, rfl⟩ := List.mem_map.mp ha
        rfl
end
end MS
namespace MS
open PySem PySem.Spec PyProof.Rows L2
section
variable {K : PySem.W.Frag} {F F' : Addr → Prop} {H H' : Hp}
theorem Keep.dvA (k : Keep K F H F' H') {ds : List D} {xs : List V} (h : DvA K F H ds xs) : DvA K F' H' ds xs := DvA.imp (fun a xs hf q => ⟨k.mono a hf, k.lst a xs hf q⟩) k.tup k.exc ds xs h
theorem Chg.keepD {A : List Addr} (c : Chg F H F' H' A) (off : ∀ a ∈ A, ¬ F a) (lst : ∀ a ∈ A, Mu H a) : Keep K F H F' H' :=
  ⟨c.mono, fun a xs hf q => c.rdL off hf q, fun a xs q => c.rdT lst q, fun a o x q => c.rdX lst x q⟩
theorem Keep.trans {F2 : Addr → Prop} {H2 : Hp} (a : Keep K F H F' H') (b : Keep K F' H' F2 H2) : Keep K F H F2 H2 :=
  ⟨fun x h => b.mono x (a.mono x h), fun x xs h q => b.lst x xs (a.mono x h) (a.lst x xs h q), fun x xs q => b.tup x xs (a.tup x xs q), fun x o i q => b.exc x o i (a.exc x o i q)⟩
theorem Keep.refl : Keep K F H F H := ⟨fun _ h => h, fun _ _ _ q => q, fun _ _ q => q, fun _ _ _ q => q⟩
theorem sqL_lst {a : Addr} {xs ys : List V} (h : H a = some (.lst xs)) (hk : K.lookup a = none) (h' : SqL K H a ys) : ys = xs := by
  rcases h' with (q | ⟨o, q⟩) | ⟨o, its, n, q, _⟩
  · rw [h] at q; cases q; rfl
  · rw [h] at q; cases q
  · rw [hk] at q; cases q
/-- a walk over items as they stand -/
theorem walkD_of {J : It} {ds : List D} (G : Hp → List V → Prop) (xs0 : List V) (h0 : DvA K F H ds xs0) (hG : ∀ F' H', Keep K F H F' H' → G H' xs0)
    (stop : ∀ H' i, G H' xs0 → xs0.length ≤ i → J.stop i H') (go : ∀ H' i x, G H' xs0 → xs0[i]? = some x → J.go i H') (yld : ∀ H' (i : Nat) x H2, i < xs0.length → G H' xs0 → J.yld i H' x H2 → H2 = H' ∧ xs0[i]? = some x) : WalkD K F H J ds := by
  intro F' H' k i
  have g := hG F' H' k
  have d := k.dvA h0
  refine ⟨fun hl => stop H' i g (by rw [h0.length]; exact Nat.le_of_eq hl.symm), fun y hy => ?_⟩
  obtain ⟨x, hx, _⟩ := d.of_get hy
  refine ⟨go H' i x g hx, fun z H2 hz => ?_⟩
  obtain ⟨rfl, e⟩ := yld H' i z H2 (List.getElem?_eq_some_iff.mp hx).1 g hz
  rw [hx] at e; cases e
  obtain ⟨x', hx', hd⟩ := d.of_get hy
  rw [hx] at hx'; cases hx'
  exact ⟨.refl, hd⟩
theorem walkD_list {a : Addr} {xs : List V} {ds : List D} (hf : F a) (h : H a = some (.lst xs)) (d : DvA K F H ds xs) : WalkD K F H (Itl K a) ds :=
  walkD_of (fun H' ys => H' a = some (.lst ys)) xs d (fun F' H' k => k.lst a (.l xs) hf h) (fun H' i g hl => ⟨xs, .of g, hl⟩) (fun H' i x g hx => ⟨xs, x, .of g, hx⟩) fun H' i x H2 _ g y => ⟨y.1, y.2 xs (.of g)⟩
theorem walkD_tup {a : Addr} {xs : List V} {ds : List D} (h : SqT K H a xs) (d : DvA K F H ds xs) : WalkD K F H (Itt K a) ds :=
  walkD_of (fun H' ys => SqT K H' a ys) xs d (fun F' H' k => k.tup a xs h) (fun H' i g hl => ⟨xs, g, hl⟩) (fun H' i x g hx => ⟨xs, x, g, hx⟩) fun H' i x H2 _ g y => ⟨y.1, y.2 xs g⟩
theorem walkD_rev {a : Addr} {xs : List V} {ds : List D} (hf : F a) (h : H a = some (.lst xs)) (d : DvA K F H ds xs) : WalkD K F H (Itv K a xs.length) ds.reverse := by
  refine walkD_of (fun H' ys => H' a = some (.lst xs)) xs.reverse d.reverse (fun F' H' k => k.lst a (.l xs) hf h) (fun H' i g hl => ?_) (fun H' i x g hx => ?_) fun H' i x H2 hi g y => ?_
  · exact (walk_rev (K := K) (a := a) (xs := xs)).yields |> fun _ => by
      have hl : xs.length ≤ i := by simpa using hl
      exact hl
  · have hi : i < xs.length := by
      have := (List.getElem?_eq_some_iff.mp hx).1
      simpa using this
    exact (walk_rev (K := K) (a := a) (xs := xs)).goes i H' hi (.of g)
  · have hi : i < xs.length := by simpa using hi
    obtain ⟨e, q⟩ := (walk_rev (K := K) (a := a) (xs := xs)).yields i H' x H2 hi (.of g) y
    refine ⟨e, ?_⟩
    rw [List.getElem?_reverse hi]
    exact q
theorem rg_get {a b : Int} {i : Nat} {d : D} (h : (rgD a b)[i]? = some d) : i < (b - a).toNat ∧ d = .int (a + (i : Nat)) := by
  unfold rgD at h
  rw [List.getElem?_map] at h
  cases e : (List.range (b - a).toNat)[i]? with
  | none => rw [e] at h; cases h
  | some j =>
    rw [e] at h
    obtain ⟨h1, h2⟩ := List.getElem?_eq_some_iff.mp e
    have hj : i = j := by simpa using h2
    subst hj
    exact ⟨by simpa using h1, (Option.some.inj h).symm⟩
theorem rg_len (a b : Int) : (rgD a b).length = (b - a).toNat := by simp [rgD]
theorem walkD_rg {a b : Int} : WalkD K F H (Itr a (b - a).toNat) (rgD a b) := fun F' H' k i => ⟨fun h => by rw [rg_len] at h; exact Nat.le_of_eq h.symm, fun d hd => by
  obtain ⟨h1, rfl⟩ := rg_get hd
  refine ⟨h1, fun x H2 y => ?_⟩
  obtain ⟨rfl, rfl⟩ := y
  exact ⟨.refl, dv_int⟩⟩
theorem dn_get {a b : Int} {i : Nat} {d : D} (h : (dnD a b)[i]? = some d) : i < (a - b).toNat ∧ d = .int (a - (i : Nat)) := by
  unfold dnD at h
  rw [List.getElem?_map] at h
  cases e : (List.range (a - b).toNat)[i]? with
  | none => rw [e] at h; cases h
  | some j =>
    rw [e] at h
    obtain ⟨h1, h2⟩ := List.getElem?_eq_some_iff.mp e
    have hj : i = j := by simpa using h2
    subst hj
    exact ⟨by simpa using h1, (Option.some.inj h).symm⟩
theorem walkD_dn {a b : Int} : WalkD K F H (Itc a (-1) (a - b).toNat) (dnD a b) := fun F' H' k i => ⟨fun h => by
    have : (dnD a b).length = (a - b).toNat := by simp [dnD]
    rw [this] at h; exact Nat.le_of_eq h.symm, fun d hd => by
  obtain ⟨h1, rfl⟩ := dn_get hd
  refine ⟨h1, fun x H2 y => ?_⟩
  obtain ⟨rfl, rfl⟩ := y
  refine ⟨.refl, ?_⟩
  have e : a + (i : Nat) * (-1) = a - (i : Nat) := by omega
  rw [e]
  exact dv_int⟩
theorem rg_rev (a b : Int) : (rgD a b).reverse = dnD (a + (((b - a).toNat : Nat) : Int) - 1) (a - 1) := by
  apply List.ext_getElem?
  intro i
  by_cases h : i < (b - a).toNat
  · rw [List.getElem?_reverse (by rw [rg_len]; exact h), rg_len]
    have e1 : (rgD a b)[(b - a).toNat - 1 - i]? = some (.int (a + (((b - a).toNat - 1 - i : Nat) : Int))) := by
      unfold rgD
      rw [List.getElem?_map, List.getElem?_range (by omega)]
      rfl
    have e2 : (dnD (a + (((b - a).toNat : Nat) : Int) - 1) (a - 1))[i]? = some (.int (a + (((b - a).toNat : Nat) : Int) - 1 - (i : Nat))) := by
      unfold dnD
      rw [List.getElem?_map, List.getElem?_range (by omega)]
      rfl
    rw [e1, e2]
    congr 2
    omega
  · rw [List.getElem?_eq_none (by rw [List.length_reverse, rg_len]; omega), List.getElem?_eq_none (by simp [dnD]; omega)]
end
section
variable {Φ : String → Spec} {X : Cx} {W : WX} {tg : Expr}
/-- a value that is walked: what it stands for -/
theorem seqOf_some {e : Ety} {ds : List D} (h : seqOf e = some ds) : e = sh (.list ds) ∨ e = sh (.tuple ds) := by
  obtain ⟨p, d⟩ := e
  unfold seqOf at h
  split at h
  · rename_i xs e
    cases e; cases h; exact .inl rfl
  · rename_i xs e
    cases e; cases h; exact .inr rfl
  · cases h
theorem fin_sh {K : PySem.W.Frag} {F F1 : Addr → Prop} {H H1 : Hp} {σ : L2.St} {f f1 g1 : List Addr} {ρ1 : Rho} {d : D} {v : V} (a : FinG K F H σ f F1 H1 ρ1 f1 g1) (o : Ow K F1 H1 d .sh v g1) : FinG K F H σ f F1 H1 ρ1 f1 [] ∧ Dv K F1 H1 d v := by
  obtain ⟨rfl, h⟩ := Ow_sh.mp o
  exact ⟨a, h⟩
def iSeq (K : PySem.W.Frag) (te : TE) : TI := fun σ H R => te σ H fun x H1 => ∃ a, x = .ref a ∧ (((∃ xs, SqL K H1 a xs) ∧ R (Itl K a) H1) ∨ ((∃ xs, SqT K H1 a xs) ∧ R (Itt K a) H1))
theorem pi_seq {l : Expr} {tl : TE} (hl : PE X l tl) : PI X tg l (iSeq X.K tl) := by
  refine ⟨fun pins s σ H R I h => ?_⟩
  -- which of both is known where the value has come
  refine thn (hl.run pins s σ H _ I h) fun v s1 ⟨x, H1, I1, r1, q1⟩ => ?_
  obtain ⟨a, rfl, q⟩ := q1
  rcases q with ⟨hx, q⟩ | ⟨hx, q⟩
  · cases r1
    obtain ⟨xs, hq⟩ := hx
    obtain ⟨its, rv, p, hz⟩ := I1.list hq
    refine wpAny_pyIter_list p.isList ?_
    refine ⟨s1.heap.objs.size, [s1.heap.objs.size], _, _, H1, rfl, I1.kept (t' := s1.toks) fun b o e => Heap.get?_push_of_some _ e, turn_list a _, ⟨_, Heap.get?_push_size _ rfl, rfl, rfl⟩, fun b hb => ?_, q⟩
    have e : b = s1.heap.objs.size := by simpa using hb
    subst e
    exact I1.fpOk (Nat.le_refl _) (I1.hok.fresh (Nat.le_refl _))
  · cases r1
    obtain ⟨xs, hq⟩ := hx
    obtain ⟨its, rv, p, hz⟩ := I1.tuple hq
    refine wpAny_pyIter_tuple (show s1.heap.IsTuple a its.toArray from p) ?_
    refine ⟨s1.heap.objs.size, [s1.heap.objs.size], _, _, H1, rfl, I1.kept (t' := s1.toks) fun b o e => Heap.get?_push_of_some _ e, turn_tuple a _, ⟨_, Heap.get?_push_size _ rfl, rfl, rfl⟩, fun b hb => ?_, q⟩
    have e : b = s1.heap.objs.size := by simpa using hb
    subst e
    exact I1.fpOk (Nat.le_refl _) (I1.hok.fresh (Nat.le_refl _))
theorem s_iseq {c : E} {e : Expr} (h : PE X e (tE Φ X W c)) : PI X tg e (tIt Φ X W (.seq c)) := PI.imp (pi_seq h) fun σ H R ⟨F, ρ, f, Q, xe, r, x, w, k⟩ => by
  simp only [wpI] at w
  refine ⟨F, ρ, f, _, xe, r, x, w, fun v F1 H1 e1 ρ1 f1 g1 fin o q => ?_⟩
  obtain ⟨ds, hd, q⟩ := onO_some q
  rcases seqOf_some hd with rfl | rfl
  · obtain ⟨fin, o⟩ := fin_sh fin o
    simp only [Dv] at o
    obtain ⟨a, xs, rfl, hf, h1, h2⟩ := o
    exact ⟨a, rfl, .inl ⟨⟨xs, .of h1⟩, k _ F1 H1 ds ρ1 f1 fin (walkD_list hf h1 h2) q⟩⟩
  · obtain ⟨fin, o⟩ := fin_sh fin o
    simp only [Dv] at o
    obtain ⟨a, xs, rfl, h1, h2⟩ := o
    exact ⟨a, rfl, .inr ⟨⟨xs, h1⟩, k _ F1 H1 ds ρ1 f1 fin (walkD_tup h1 h2) q⟩⟩
theorem pa_one {e : Expr} {te : TE} (h : PE X e te) (hs : starEach [e] X.env = [(false, eval e X.env)]) : PA X [e] (tCons te tNil) := pa_cons h pa_nil hs
theorem s_rng1 {a : E} {e : Expr} {x : Str} {p pos : Pos} (hx : x = Str.ofString "range") (hg : Gl X x) (hm : X.mg x = none) (h : PE X e (tE Φ X W a)) (hs : starEach [e] X.env = [(false, eval e X.env)]) : PI X tg (.Call (.Name x p) [e] [] pos) (tIt Φ X W (.rng1 a)) := by
  subst hx
  refine PI.imp (pi_range1 hg hm (pa_one h hs) hs) fun σ H R ⟨F, ρ, f, Q, xe, r, x, w, k⟩ => ?_
  simp only [wpI] at w
  refine ⟨F, ρ, f, _, xe, r, x, w, fun v F1 H1 e1 ρ1 f1 g1 fin o q => ?_⟩
  obtain ⟨p1, d1⟩ := e1
  cases d1 <;> first | exact q.elim | skip
  obtain ⟨q1, q2, q⟩ := q
  refine ⟨_, by rw [o.int], q1, q2, ?_⟩
  have := walkD_rg (K := X.K) (F := F1) (H := H1) (a := 0) (b := by assumption)
  rw [Int.sub_zero] at this
  exact k _ F1 H1 _ ρ1 f1 fin.drop this q
theorem s_rng2 {a b : E} {e e2 : Expr} {x : Str} {p pos : Pos} (hx : x = Str.ofString "range") (hg : Gl X x) (hm : X.mg x = none) (h : PE X e (tE Φ X W a)) (h2 : PE X e2 (tE Φ X W b)) (hs2 : starEach [e2] X.env = [(false, eval e2 X.env)]) (hs : starEach [e, e2] X.env = [(false, eval e X.env), (false, eval e2 X.env)]) :
    PI X tg (.Call (.Name x p) [e, e2] [] pos) (tIt Φ X W (.rng2 a b)) := by
  subst hx
  refine PI.imp (pi_range2 hg hm (pa_cons h (pa_one h2 hs2) (by rw [hs, hs2])) hs hs2) fun σ H R ⟨F, ρ, f, Q, xe, r, x, w, k⟩ => ?_
  simp only [wpI] at w
  refine ⟨F, ρ, f, _, xe, r, x, w, fun v F1 H1 e1 ρ1 f1 g1 fin o q => ?_⟩
  refine ⟨F1, ρ1, f1, _, xe, fin.rep, x.fin fin, q, fun v2 F2 H2 e2 ρ2 f2 g2 fin2 o2 q2 => ?_⟩
  obtain ⟨p1, d1⟩ := e1
  obtain ⟨p2, d2⟩ := e2
  cases d1 <;> first | exact q2.elim | skip
  cases d2 <;> first | exact q2.elim | skip
  obtain ⟨q1, q3⟩ := q2
  exact ⟨_, _, by rw [o.int, o2.int], q1, k _ F2 H2 _ ρ2 f2 (fin.trans' fin2).drop walkD_rg q3⟩
theorem s_rng3 {a b c : E} {e e2 e3 : Expr} {x : Str} {p pos : Pos} (hx : x = Str.ofString "range") (hg : Gl X x) (hm : X.mg x = none) (h : PE X e (tE Φ X W a)) (h2 : PE X e2 (tE Φ X W b)) (h3 : PE X e3 (tE Φ X W c)) (hs3 : starEach [e3] X.env = [(false, eval e3 X.env)]) (hs2 : starEach [e2, e3] X.env = [(false, eval e2 X.env), (false, eval e3 X.env)])
    (hs : starEach [e, e2, e3] X.env = [(false, eval e X.env), (false, eval e2 X.env), (false, eval e3 X.env)]) :
    PI X tg (.Call (.Name x p) [e, e2, e3] [] pos) (tIt Φ X W (.rng3 a b c)) := by
  subst hx
  refine PI.imp (pi_range3 hg hm (pa_cons h (pa_cons h2 (pa_one h3 hs3) (by rw [hs2, hs3])) (by rw [hs, hs2])) (by rw [hs, hs2]) (by rw [hs2]; rfl)) fun σ H R ⟨F, ρ, f, Q, xe, r, x, w, k⟩ => ?_
  simp only [wpI] at w
  refine ⟨F, ρ, f, _, xe, r, x, w, fun v F1 H1 e1 ρ1 f1 g1 fin o q => ?_⟩
  refine ⟨F1, ρ1, f1, _, xe, fin.rep, x.fin fin, q, fun v2 F2 H2 e2 ρ2 f2 g2 fin2 o2 q2 => ?_⟩
  refine ⟨F2, ρ2, f2, _, xe, fin2.rep, (x.fin fin).fin fin2, q2, fun v3 F3 H3 e3 ρ3 f3 g3 fin3 o3 q3 => ?_⟩
  obtain ⟨p1, d1⟩ := e1
  obtain ⟨p2, d2⟩ := e2
  obtain ⟨p3, d3⟩ := e3
  cases d1 <;> first | exact q3.elim | skip
  cases d2 <;> first | exact q3.elim | skip
  cases d3 <;> first | exact q3.elim | skip
  obtain ⟨rfl, ⟨q1, q2, q4, q5⟩, q3⟩ := q3
  exact ⟨_, _, _, _, by rw [o.int, o2.int, o3.int], RgC.neg q1 q2 q4 q5, k _ F3 H3 _ ρ3 f3 ((fin.trans' fin2).trans' fin3).drop walkD_dn q3⟩
theorem rgc_pos {i j c : Int} (h1 : 0 < c) (h2 : c < 1000000) (h3 : 0 ≤ i) (h4 : i < 1000000000) (h5 : 0 ≤ j) (h6 : j < 1000000000) : RgC i j c (if i < j then (j - i - 1) / c + 1 else 0).toNat := by
  have hs : Builtin.Range.rangeSize i j c = if i < j then (j - i - 1) / c + 1 else 0 := by
    unfold Builtin.Range.rangeSize
    rw [if_pos h1]
  have hq : i < j → 0 ≤ (j - i - 1) / c ∧ (j - i - 1) / c * c ≤ j - i - 1 := fun z => ⟨Int.ediv_nonneg (by omega) (by omega), Int.ediv_mul_le _ (by omega)⟩
  have hm : i < j → (j - i - 1) / c ≤ j - i - 1 := fun z => Int.ediv_le_self _ (by omega)
  refine ⟨by omega, by omega, ?_, ?_⟩
  · unfold Builtin.Range.small
    rw [hs]
    simp only [show (c > 0) = True from eq_true h1, if_true, Builtin.Range.rangeFitsLong, Bool.and_eq_true, Bool.or_eq_true, decide_eq_true_eq, beq_iff_eq]
    by_cases z : i < j
    · have a := hq z
      have b := hm z
      have b0 := a.1
      simp only [if_pos z]
      generalize (j - i - 1) / c = n at *
      clear a
      omega
    · simp only [if_neg z]
      omega
  · rw [hs]
    by_cases z : i < j
    · have a := hq z
      rw [if_pos z]; omega
    · rw [if_neg z]; rfl
theorem st_get {a b k : Int} {i : Nat} {d : D} (h : (stD a b k)[i]? = some d) : i < (if a < b then (b - a - 1) / k + 1 else 0).toNat ∧ d = .int (a + (i : Nat) * k) := by
  unfold stD at h
  rw [List.getElem?_map, Option.map_eq_some_iff] at h
  obtain ⟨j, hj, rfl⟩ := h
  obtain ⟨h1, h2⟩ := List.getElem?_eq_some_iff.mp hj
  have : i = j := by simpa using h2
  subst this
  exact ⟨by simpa using h1, rfl⟩
theorem walkD_st {K : PySem.W.Frag} {F : Addr → Prop} {H : Hp} {a b k : Int} : WalkD K F H (Itc a k (if a < b then (b - a - 1) / k + 1 else 0).toNat) (stD a b k) := fun F' H' kk i => ⟨fun h => by
    have : (stD a b k).length = (if a < b then (b - a - 1) / k + 1 else 0).toNat := by simp [stD]
    rw [this] at h; exact Nat.le_of_eq h.symm, fun d hd => by
  obtain ⟨h1, rfl⟩ := st_get hd
  refine ⟨h1, fun x H2 y => ?_⟩
  obtain ⟨rfl, rfl⟩ := y
  exact ⟨.refl, dv_int⟩⟩
theorem s_rngS {a b c : E} {e e2 e3 : Expr} {x : Str} {p pos : Pos} (hx : x = Str.ofString "range") (hg : Gl X x) (hm : X.mg x = none) (h : PE X e (tE Φ X W a)) (h2 : PE X e2 (tE Φ X W b)) (h3 : PE X e3 (tE Φ X W c)) (hs3 : starEach [e3] X.env = [(false, eval e3 X.env)]) (hs2 : starEach [e2, e3] X.env = [(false, eval e2 X.env), (false, eval e3 X.env)])
    (hs : starEach [e, e2, e3] X.env = [(false, eval e X.env), (false, eval e2 X.env), (false, eval e3 X.env)]) :
    PI X tg (.Call (.Name x p) [e, e2, e3] [] pos) (tIt Φ X W (.rngS a b c)) := by
  subst hx
  refine PI.imp (pi_range3 hg hm (pa_cons h (pa_cons h2 (pa_one h3 hs3) (by rw [hs2, hs3])) (by rw [hs, hs2])) (by rw [hs, hs2]) (by rw [hs2]; rfl)) fun σ H R ⟨F, ρ, f, Q, xe, r, x, w, k⟩ => ?_
  simp only [wpI] at w
  refine ⟨F, ρ, f, _, xe, r, x, w, fun v F1 H1 e1 ρ1 f1 g1 fin o q => ?_⟩
  refine ⟨F1, ρ1, f1, _, xe, fin.rep, x.fin fin, q, fun v2 F2 H2 e2 ρ2 f2 g2 fin2 o2 q2 => ?_⟩
  refine ⟨F2, ρ2, f2, _, xe, fin2.rep, (x.fin fin).fin fin2, q2, fun v3 F3 H3 e3 ρ3 f3 g3 fin3 o3 q3 => ?_⟩
  obtain ⟨p1, d1⟩ := e1
  obtain ⟨p2, d2⟩ := e2
  obtain ⟨p3, d3⟩ := e3
  cases d1 <;> first | exact q3.elim | skip
  cases d2 <;> first | exact q3.elim | skip
  cases d3 <;> first | exact q3.elim | skip
  obtain ⟨⟨q1, q2, q4, q5, q6, q7⟩, q3⟩ := q3
  exact ⟨_, _, _, _, by rw [o.int, o2.int, o3.int], rgc_pos q1 q2 q4 q5 q6 q7, k _ F3 H3 _ ρ3 f3 ((fin.trans' fin2).trans' fin3).drop walkD_st q3⟩
theorem s_revR {a : E} {e : Expr} {x y : Str} {p pos p2 pos2 : Pos} (hx : x = Str.ofString "range") (hg : Gl X x) (hm : X.mg x = none) (hy : y = Str.ofString "reversed") (hg2 : Gl X y) (hm2 : X.mg y = none) (h : PE X e (tE Φ X W a)) (hs : starEach [e] X.env = [(false, eval e X.env)]) :
    PI X tg (.Call (.Name y p2) [.Call (.Name x p) [e] [] pos] [] pos2) (tIt Φ X W (.revR a)) := by
  subst hx hy
  refine PI.imp (pi_revR hg2 hm2 (prg_1 hg hm h hs)) fun σ H R ⟨F, ρ, f, Q, xe, r, x, w, k⟩ => ?_
  simp only [wpI] at w
  refine ⟨F, ρ, f, _, xe, r, x, w, fun v F1 H1 e1 ρ1 f1 g1 fin o q => ?_⟩
  obtain ⟨p1, d1⟩ := e1
  cases d1 <;> first | exact q.elim | skip
  obtain ⟨q1, q2, q⟩ := q
  refine ⟨_, o.int, by omega, by omega, q1, q2, ?_⟩
  rw [rg_rev] at q
  have := walkD_dn (K := X.K) (F := F1) (H := H1) (a := 0 + ((((by assumption : Int) - 0).toNat : Nat) : Int) - 1) (b := 0 - 1)
  refine k _ F1 H1 _ ρ1 f1 fin.drop ?_ q
  rename_i j
  have e : (0 + (((j - 0).toNat : Nat) : Int) - 1 - (0 - 1)).toNat = (j - 0).toNat := by omega
  rw [e] at this
  exact this
theorem s_rev {c : E} {e : Expr} {y : Str} {p2 pos2 : Pos} (hy : y = Str.ofString "reversed") (hg2 : Gl X y) (hm2 : X.mg y = none) (h : PE X e (tE Φ X W c)) (hs : starEach [e] X.env = (false, eval e X.env) :: starEach [] X.env) :
    PI X tg (.Call (.Name y p2) [e] [] pos2) (tIt Φ X W (.rev c)) := by
  subst hy
  refine PI.imp (RT.pi_revA hg2 hm2 h hs) fun σ H R ⟨F, ρ, f, Q, xe, r, x, w, k⟩ => ?_
  simp only [wpI] at w
  refine ⟨F, ρ, f, _, xe, r, x, w, fun v F1 H1 e1 ρ1 f1 g1 fin o q => ?_⟩
  obtain ⟨ds, hd, q⟩ := onO_some q
  rcases seqOf_some hd with rfl | rfl
  · obtain ⟨fin, o⟩ := fin_sh fin o
    simp only [Dv] at o
    obtain ⟨a, xs, rfl, hf, h1, h2⟩ := o
    exact ⟨a, xs, rfl, .inl ⟨.of h1, k _ F1 H1 _ ρ1 f1 fin (walkD_rev hf h1 h2) q⟩⟩
  · obtain ⟨fin, o⟩ := fin_sh fin o
    simp only [Dv] at o
    obtain ⟨a, xs, rfl, h1, h2⟩ := o
    refine ⟨a, xs, rfl, .inr ⟨h1, k _ F1 H1 _ ρ1 f1 fin ?_ q⟩⟩
    refine walkD_of (fun H' ys => SqT X.K H' a xs) xs.reverse h2.reverse (fun F' H' k => k.tup a xs h1) (fun H' i g hl => ?_) (fun H' i x g hx => ?_) fun H' i x H2 hi g y => ?_
    · have hl : xs.length ≤ i := by simpa using hl
      exact hl
    · have hi : i < xs.length := by
        have := (List.getElem?_eq_some_iff.mp hx).1
        simpa using this
      exact ⟨hi, xs, xs[xs.length - 1 - i]'(by omega), g, by simp [show xs.length - 1 - i < xs.length by omega]⟩
    · have hi : i < xs.length := by simpa using hi
      refine ⟨y.1, ?_⟩
      rw [List.getElem?_reverse hi]
      exact y.2 xs g
end
end MS
namespace MS
open PySem PySem.Spec PyProof.Rows L2
/-! ### zip over lists and tuples, in any mix -/
def SqK (K : PySem.W.Frag) (H : Hp) (k : Bool) (a : Addr) (xs : List V) : Prop := match k with
  | true => SqT K H a xs
  | false => SqL K H a xs
def ItK (k : Bool) (h : Heap) (it a : Addr) (i : Nat) : Prop := match k with
  | true => h.IsTupleIter it a i
  | false => h.IsListIter it a i
def LK (k : Bool) (h : Heap) (a : Addr) (items : Array Value) : Prop := match k with
  | true => h.IsTuple a items
  | false => h.IsList a items
theorem drawK {prog : Program} {w : World} {A : Around} (hh : A.handled = none) (k : Bool) (it t : Addr) (hne : t ≠ it) (items : Array Value) :
    Draws prog w A it [it, t] items.size (fun i v => items[i]? = some v) (fun i h => ItK k h it t i ∧ LK k h t items) := by
  cases k with
  | true => exact Draws.tuple hh it t hne items
  | false => exact Draws.list hh it t hne items
theorem ItK.at {k : Bool} {h h' : Heap} {it a : Addr} {i : Nat} (x : ItK k h it a i) (e : ∀ o, h.get? it = some o → h'.get? it = some o) : ItK k h' it a i := by
  cases k with
  | true => exact PySem.Heap.IsTupleIter.at x e
  | false => exact PySem.Heap.IsListIter.at x e
theorem ItK.obj {k : Bool} {h : Heap} {it a : Addr} {i : Nat} (x : ItK k h it a i) : ∃ o, h.get? it = some o ∧ ∃ v, o.data = .fields v := by
  cases k with
  | true => obtain ⟨o, h1, _, h2⟩ := x; exact ⟨o, h1, _, h2⟩
  | false => obtain ⟨o, h1, _, h2⟩ := x; exact ⟨o, h1, _, h2⟩
section
variable {X : Cx} {pins : List (Addr × Obj)} {σ : L2.St} {H : Hp} {s : Shared}
theorem seqK {k : Bool} {a : Addr} {xs : List V} (I : Inv X pins σ H s) (h : SqK X.K H k a xs) : ∃ its : List Value, Vals xs its ∧ LK k s.heap a its.toArray := by
  cases k with
  | true => obtain ⟨its, r, p, _⟩ := I.tuple h; exact ⟨its, r, p⟩
  | false => obtain ⟨its, r, p, _⟩ := I.list h; exact ⟨its, r, p.isList⟩
theorem seqK_inj {k : Bool} {a : Addr} {xs ys : List V} (I : Inv X pins σ H s) (h : SqK X.K H k a xs) (h' : SqK X.K H k a ys) : xs = ys := by
  cases k with
  | true => exact I.tuple_inj h h'
  | false => exact I.list_inj h h'
theorem LK.lt {k : Bool} {h : Heap} {a : Addr} {items : Array Value} (x : LK k h a items) : a < h.objs.size := by
  cases k with
  | true => obtain ⟨o, h1, _⟩ := x; exact Heap.lt_size h1
  | false => obtain ⟨o, h1, _⟩ := x; exact Heap.lt_size h1
theorem begK (k : Bool) (a : Addr) (items : Array Value) : ∃ o, Begins (.ref a) o (fun h => LK k h a items) ∧ ∀ h it, h.get? it = some o → ItK k h it a 0 := by
  cases k with
  | true => exact ⟨_, begins_tuple a items, fun h it e => ⟨_, e, rfl, rfl⟩⟩
  | false => exact ⟨_, begins_list a items, fun h it e => ⟨_, e, rfl, rfl⟩⟩
end
def ItzM (K : PySem.W.Frag) (k1 k2 : Bool) (a b : Addr) : It :=
  ⟨fun i H => ∃ (xs ys : List V) (x y : V), SqK K H k1 a xs ∧ SqK K H k2 b ys ∧ xs[i]? = some x ∧ ys[i]? = some y,
    fun i H v H' => ∃ T x y, v = .ref T ∧ H T = none ∧ H' = upd H T (.tup [x, y]) ∧ (∀ xs, SqK K H k1 a xs → xs[i]? = some x) ∧ ∀ ys, SqK K H k2 b ys → ys[i]? = some y,
    fun i H => ∃ xs ys : List V, SqK K H k1 a xs ∧ SqK K H k2 b ys ∧ i ≤ xs.length ∧ i ≤ ys.length ∧ (xs.length = i ∨ ys.length = i)⟩
theorem turn_zipM {P : Program} {w : World} {K : PySem.W.Frag} {elts : List Expr} {kk : Nat} {tpos : Pos} {k1 k2 : Bool} {a b z TI TO i1 i2 : Addr} (S : ZipSep2 z TI TO i1 i2 [i1, a] [i2, b]) (na : a ≠ i1) (nb : b ≠ i2) :
    Turn P w K (.Tuple elts kk tpos) (ItzM K k1 k2 a b) [z, TI, TO, i1, i2] z (fun i h => IsZip h z TI TO .none ∧ IsTupOf2 h TI (.ref i1) (.ref i2) ∧ (∃ x y, IsTupOf2 h TO x y) ∧ ItK k1 h i1 a i ∧ ItK k2 h i2 b i) where
  mem := by simp
  obj := fun i h st c hc => by
    obtain ⟨hz, hTI, ⟨x, y, hTO⟩, h1, h2⟩ := st
    have e' : c = z ∨ c = TI ∨ c = TO ∨ c = i1 ∨ c = i2 := by simpa using hc
    rcases e' with q | q | q | q | q
    · rw [q]; exact ⟨_, hz, fun v q => nomatch q⟩
    · rw [q]; exact ⟨_, hTI, fun v q => nomatch q⟩
    · rw [q]; exact ⟨_, hTO, fun v q => nomatch q⟩
    · rw [q]; obtain ⟨o1, e1, _, d1⟩ := h1.obj; exact ⟨o1, e1, fun v q => by rw [d1] at q; cases q⟩
    · rw [q]; obtain ⟨o1, e1, _, d1⟩ := h2.obj; exact ⟨o1, e1, fun v q => by rw [d1] at q; cases q⟩
  keep := fun i h h' st k => by
    obtain ⟨hz, hTI, ⟨x, y, hTO⟩, h1, h2⟩ := st
    exact ⟨k z (by simp) _ hz, k TI (by simp) _ hTI, ⟨x, y, k TO (by simp) _ hTO⟩, h1.at fun o q => k i1 (by simp) o q, h2.at fun o q => k i2 (by simp) o q⟩
  item := by
    intro X hP hw hK hc i pins s σ H E I hf st hg
    subst hP hw hK
    obtain ⟨hz, hTI, ⟨x0, y0, hTO⟩, h1, h2⟩ := st
    obtain ⟨xs, ys, x, y, hqx, hqy, hx, hy⟩ := hg
    obtain ⟨its, rv, p⟩ := seqK I hqx
    obtain ⟨its2, rv2, p2⟩ := seqK I hqy
    obtain ⟨u, hu, ru⟩ := rv.get hx
    obtain ⟨u2, hu2, ru2⟩ := rv2.get hy
    have hzl : z < s.heap.objs.size := Heap.lt_size hz
    have lt1 : i < its.toArray.size := by have := (List.getElem?_eq_some_iff.mp hu).1; simpa using this
    have lt2 : i < its2.toArray.size := by have := (List.getElem?_eq_some_iff.mp hu2).1; simpa using this
    refine wpAny_pyNext_zipD2_item S (drawK (A := X.A.in1) (I.ok.hd hc) k1 i1 a na its.toArray) (drawK (A := X.A.in1) (I.ok.hd hc) k2 i2 b nb its2.toArray) hz hTI hTO ⟨h1, p⟩ ⟨h2, p2⟩ lt1 lt2 fun x1 x2 h' tk y1 y2 z' TO' h1' h2' hT hsz hk => ?_
    have e1 : x1 = u := by
      have : its[i]? = some x1 := by simpa using y1
      rw [hu] at this; cases this; rfl
    have e2 : x2 = u2 := by
      have : its2[i]? = some x2 := by simpa using y2
      rw [hu2] at this; cases this; rfl
    subst e1 e2
    refine ⟨_, rfl, wpAny_letOwnedTupleGo_zip (s := { s with heap := h', toks := tk }) z' fun h'' z'' sb => ?_⟩
    have hT2 : h''.get? s.heap.objs.size = some { cls := .type "tuple", data := .seq #[x1, x2] } := (sb.2 _ (Nat.ne_of_gt hzl)).trans hT
    have new : ObjOk X.prog X.w (upd H s.heap.objs.size (.tup [x, y])) h'' s.heap.objs.size (.tup [x, y]) :=
      ⟨by show 2 ≤ sizeLine; decide, [x1, x2], .cons ru (.cons ru2 .nil), ⟨_, hT2, rfl, _, rfl⟩⟩
    have I1 : Inv X pins σ (upd H s.heap.objs.size (.tup [x, y])) { s with heap := h'', toks := tk } :=
      I.turnedNew (t' := tk) (ch := [z, TI, TO, i1, i2]) (fun c o hb q => (sb.2 c (fun q' => hb (by simp [q']))).trans (hk c o (fun q' => hb (by simp [q'])) (fun q' => hb (by simp [q'])) (fun q' => hb (by simp [q'])) (fun q' => hb (by simp [q'])) q)) hf (Nat.le_refl _) new
    have iz1 : i1 ≠ z := fun e => S.zf1 (by rw [e]; simp)
    have iz2 : i2 ≠ z := fun e => S.zf2 (by rw [e]; simp)
    refine ⟨.ref s.heap.objs.size, _, I1, rfl, ⟨_, x, y, rfl, I.hok.fresh (Nat.le_refl _), rfl, fun l hl => by rw [seqK_inj I hl hqx]; exact hx, fun l hl => by rw [seqK_inj I hl hqy]; exact hy⟩, ⟨z'', ?_, ⟨x1, x2, ?_⟩, ?_, ?_⟩, fun c hcm => ?_⟩
    · exact (sb.2 _ S.TIz).trans (hk _ _ S.TIz S.TITO S.TIi1 S.TIi2 hTI)
    · exact (sb.2 _ S.TOz).trans TO'
    · exact h1'.1.at fun o q => (sb.2 _ iz1).trans q
    · exact h2'.1.at fun o q => (sb.2 _ iz2).trans q
    · have hlt : c < s.heap.objs.size := by
        have e' : c = z ∨ c = TI ∨ c = TO ∨ c = i1 ∨ c = i2 := by simpa using hcm
        rcases e' with q | q | q | q | q
        · rw [q]; exact hzl
        · rw [q]; exact Heap.lt_size hTI
        · rw [q]; exact Heap.lt_size hTO
        · rw [q]; obtain ⟨_, e1, _⟩ := h1.obj; exact Heap.lt_size e1
        · rw [q]; obtain ⟨_, e2, _⟩ := h2.obj; exact Heap.lt_size e2
      rw [upd_ne (Nat.ne_of_lt hlt)]
      exact (hf c hcm).1
  done := by
    intro X hP hw hK hc i pins s σ H E I hf st hg
    subst hP hw hK
    obtain ⟨hz, hTI, ⟨x0, y0, hTO⟩, h1, h2⟩ := st
    obtain ⟨xs, ys, hqx, hqy, l1, l2, hend⟩ := hg
    obtain ⟨its, rv, p⟩ := seqK I hqx
    obtain ⟨its2, rv2, p2⟩ := seqK I hqy
    have e1 := rv.length
    have e2 := rv2.length
    exact wpAny_pyNext_zipD2_end S (drawK (A := X.A.in1) (I.ok.hd hc) k1 i1 a na its.toArray) (drawK (A := X.A.in1) (I.ok.hd hc) k2 i2 b nb its2.toArray) hz hTI hTO ⟨h1, p⟩ ⟨h2, p2⟩ (by simp; omega) (by simp; omega) (by simp; omega) fun h' tk hk => ⟨rfl, I.turnedL (t' := tk) (ch := [z, TI, TO, i1, i2]) (fun c o hb q =>
      hk c o (fun q' => hb (by simp [q'])) (fun q' => hb (by simp [q'])) (fun q' => hb (by simp [q'])) (fun q' => hb (by simp [q'])) q) hf⟩
  self := fun A i s Q E st h => wpAny_pyIter_zip st.1 h
def iZipM (K : PySem.W.Frag) (ta : TA) : TI := fun σ H R => ta σ H fun vs H1 => ∃ a b xs ys k1 k2, vs = [.ref a, .ref b] ∧ SqK K H1 k1 a xs ∧ SqK K H1 k2 b ys ∧ R (ItzM K k1 k2 a b) H1
theorem pi_zipM {X : Cx} {e e2 : Expr} {ta : TA} {p pos tpos : Pos} {elts : List Expr} {kk : Nat} (hg : Gl X "zip") (hm : X.mg "zip" = none) (ha : PA X [e, e2] ta)
    (hs : starEach [e, e2] X.env = (false, eval e X.env) :: starEach [e2] X.env := by rfl) (hpl : (backTo pos (starEach [e2] X.env)).any (·.1) = false := by rfl) :
    PI X (.Tuple elts kk tpos) (.Call (.Name "zip" p) [e, e2] [] pos) (iZipM X.K ta) := by
  refine ⟨fun pins s σ H R I h => ?_⟩
  refine Call_ (ld_blt I hg hm PyProof.Rows.boot_zip (PyProof.Rows.callWith_type1 (thn (ha.run pos pins s σ H _ I h) fun us s1 ⟨vs, H1, I1, r1, q1⟩ => ?_) hs hpl))
  obtain ⟨a, b, xs, ys, k1, k2, ex, hqx, hqy, q⟩ := q1
  subst ex
  cases r1 with
  | cons r rr =>
    cases rr with
    | cons r' rr =>
      cases rr
      cases r
      cases r'
      have fresh5 : ∀ c, c ∈ [s1.heap.objs.size + 4, s1.heap.objs.size + 2, s1.heap.objs.size + 3, s1.heap.objs.size, s1.heap.objs.size + 1] → FpOk X pins H1 c := fun c hcm => by
        have e' : c = s1.heap.objs.size + 4 ∨ c = s1.heap.objs.size + 2 ∨ c = s1.heap.objs.size + 3 ∨ c = s1.heap.objs.size ∨ c = s1.heap.objs.size + 1 := by simpa using hcm
        have hle : s1.heap.objs.size ≤ c := by
          rcases e' with z | z | z | z | z
          · rw [z]; exact Nat.le_add_right _ _
          · rw [z]; exact Nat.le_add_right _ _
          · rw [z]; exact Nat.le_add_right _ _
          · rw [z]; exact Nat.le_refl _
          · rw [z]; exact Nat.le_add_right _ _
        exact I1.fpOk hle (I1.hok.fresh hle)
      obtain ⟨its, rv, p1⟩ := seqK I1 hqx
      obtain ⟨its2, rv2, p2⟩ := seqK I1 hqy
      obtain ⟨o1, B1, b1⟩ := begK k1 a its.toArray
      obtain ⟨o2, B2, b2⟩ := begK k2 b its2.toArray
      refine zip_begins2 B1 B2 p1 p2 fun h' hz hTI hTO h1 h2 hsz hk => wpAny_pyIter_zip hz ?_
      have I2 : Inv X pins σ H1 { s1 with heap := h' } := I1.kept (t' := s1.toks) hk
      have sep := zip_sep2 (N := s1.heap.objs.size) (fp1 := [a]) (fp2 := [b]) (fun c hc => by rw [List.mem_singleton.mp hc]; exact p1.lt) (fun c hc => by rw [List.mem_singleton.mp hc]; exact p2.lt)
      exact ⟨s1.heap.objs.size + 4, [s1.heap.objs.size + 4, s1.heap.objs.size + 2, s1.heap.objs.size + 3, s1.heap.objs.size, s1.heap.objs.size + 1], _, _, H1, rfl, I2, turn_zipM sep (Nat.ne_of_lt p1.lt) (Nat.ne_of_lt (Nat.lt_succ_of_lt p2.lt)), ⟨hz, hTI, ⟨_, _, hTO⟩, b1 _ _ h1, b2 _ _ h2⟩, fresh5, q⟩
end MS
namespace MS
open PySem PySem.Spec PyProof.Rows L2
section
variable {K : PySem.W.Frag} {F F' : Addr → Prop} {H H' : Hp}
theorem zip_len : ∀ (as bs : List D), (zipD as bs).length = min as.length bs.length
  | [], bs => by simp [zipD]
  | a :: as, [] => by simp [zipD]
  | a :: as, b :: bs => by simp [zipD, zip_len as bs]
theorem zip_get : ∀ {as bs : List D} {i : Nat} {d : D}, (zipD as bs)[i]? = some d → ∃ a b, as[i]? = some a ∧ bs[i]? = some b ∧ d = .tuple [a, b]
  | [], bs, i, d, h => by simp [zipD] at h
  | a :: as, [], i, d, h => by simp [zipD] at h
  | a :: as, b :: bs, 0, d, h => by
    simp [zipD] at h
    exact ⟨a, b, rfl, rfl, h.symm⟩
  | a :: as, b :: bs, i + 1, d, h => by
    have h' : (zipD as bs)[i]? = some d := by simpa [zipD] using h
    obtain ⟨x, y, h1, h2, h3⟩ := zip_get h'
    exact ⟨x, y, by simpa using h1, by simpa using h2, h3⟩
theorem sqL_inj2 {a : Addr} {xs : List V} (h : H a = some (.lst xs)) : SqL K H a xs := .of h
theorem pair_dv {x y : V} {a b : D} {T : Addr} (hT : H T = none) (h1 : Dv K F H a x) (h2 : Dv K F H b y) : Dv K F (upd H T (.tup [x, y])) (.tuple [a, b]) (.ref T) := by
  have c : Chg F H F (upd H T (.tup [x, y])) [] := chg_new hT
  simp only [Dv]
  exact ⟨T, [x, y], rfl, .inl (.inl upd_same), DvA_cons.mpr ⟨x, [y], rfl, Dv.chg c (by simp) (by simp) _ _ h1, DvA_cons.mpr ⟨y, [], rfl, Dv.chg c (by simp) (by simp) _ _ h2, DvA_nil.mpr rfl⟩⟩⟩
/-- the items of a shared row at a -/
def SrcD (K : PySem.W.Frag) (F : Addr → Prop) (H : Hp) (k : Bool) (a : Addr) (xs : List V) : Prop := match k with
  | true => SqT K H a xs
  | false => F a ∧ H a = some (.lst xs)
theorem SrcD.keep {k : Bool} {a : Addr} {xs : List V} (h : SrcD K F H k a xs) (q : Keep K F H F' H') : SqK K H' k a xs := by
  cases k with
  | true => exact q.tup a xs h
  | false => exact .of (q.lst a (.l xs) h.1 h.2)
theorem SrcD.sq {k : Bool} {a : Addr} {xs : List V} (h : SrcD K F H k a xs) : SqK K H k a xs := h.keep .refl
theorem walkD_zipM {k1 k2 : Bool} {a b : Addr} {xs ys : List V} {as bs : List D} (ha : SrcD K F H k1 a xs) (da : DvA K F H as xs) (hb : SrcD K F H k2 b ys) (db : DvA K F H bs ys) : WalkD K F H (ItzM K k1 k2 a b) (zipD as bs) := by
  intro F' H' k i
  have ha' := ha.keep k
  have hb' := hb.keep k
  have da' := k.dvA da
  have db' := k.dvA db
  refine ⟨fun hl => ⟨xs, ys, ha', hb', ?_⟩, fun d hd => ?_⟩
  · rw [zip_len] at hl
    rw [da.length, db.length]; omega
  · obtain ⟨p, q, hp, hq, rfl⟩ := zip_get hd
    obtain ⟨x, hx, dx⟩ := da'.of_get hp
    obtain ⟨y, hy, dy⟩ := db'.of_get hq
    refine ⟨⟨xs, ys, x, y, ha', hb', hx, hy⟩, fun z H2 hz => ?_⟩
    obtain ⟨T, x', y', rfl, hT, rfl, h1, h2⟩ := hz
    have e1 := (h1 xs ha').symm.trans hx
    have e2 := (h2 ys hb').symm.trans hy
    cases e1; cases e2
    exact ⟨chg_new hT, pair_dv hT dx dy⟩
/-- a shared row's datum -/
theorem src_of {e : Ety} {ds : List D} {v : V} (h : seqOf e = some ds) (o : Dv K F H e.d v) : ∃ k a xs, v = .ref a ∧ SrcD K F H k a xs ∧ DvA K F H ds xs := by
  rcases seqOf_some h with rfl | rfl
  · simp only [Dv] at o
    obtain ⟨a, xs, rfl, hf, k1, k2⟩ := o
    exact ⟨false, a, xs, rfl, ⟨hf, k1⟩, k2⟩
  · simp only [Dv] at o
    obtain ⟨a, xs, rfl, k1, k2⟩ := o
    exact ⟨true, a, xs, rfl, k1, k2⟩
theorem seqOf_sh {e : Ety} {ds : List D} (h : seqOf e = some ds) : e = sh e.d := by
  rcases seqOf_some h with rfl | rfl <;> rfl
end
section
variable {Φ : String → Spec} {X : Cx} {W : WX}
theorem s_zip {c1 c2 : E} {e e2 : Expr} {y : Str} {p2 pos2 tpos : Pos} {elts : List Expr} {kk : Nat} (hy : y = Str.ofString "zip") (hg : Gl X y) (hm : X.mg y = none) (h1 : PE X e (tE Φ X W c1)) (h2 : PE X e2 (tE Φ X W c2)) (hs1 : notStar e = true) (hs2 : notStar e2 = true)
    (st : starEach [e, e2] X.env = (false, eval e X.env) :: starEach [e2] X.env) (st2 : starEach [e2] X.env = (false, eval e2 X.env) :: starEach [] X.env) :
    PI X (.Tuple elts kk tpos) (.Call (.Name y p2) [e, e2] [] pos2) (tIt Φ X W (.zip c1 c2)) := by
  subst hy
  refine PI.imp (pi_zipM hg hm (pa_cons h1 (pa_cons h2 pa_nil st2) st) st (by rw [st2]; rfl)) fun σ H R ⟨F, ρ, f, Q, xe, r, x, w, k⟩ => ?_
  simp only [wpI] at w
  refine ⟨F, ρ, f, _, xe, r, x, w, fun v F1 H1 e1 ρ1 f1 g1 fin o q => ?_⟩
  refine ⟨F1, ρ1, f1, _, xe, fin.rep, x.fin fin, q, fun v2 F2 H2 e2 ρ2 f2 g2 fin2 o2 q2 => ?_⟩
  obtain ⟨ds, hd, q2⟩ := onO_some q2
  obtain ⟨ds2, hd2, q2⟩ := onO_some q2
  rw [seqOf_sh hd] at o
  rw [seqOf_sh hd2] at o2
  obtain ⟨fn, od⟩ := fin_sh fin o
  obtain ⟨fn2, od2⟩ := fin_sh fin2 o2
  have od' : Dv X.K F2 H2 e1.d v := Dv.chg fin2.chg fin.rep.off fin.rep.lst _ _ od
  obtain ⟨kk1, a, xs, rfl, s1, d1⟩ := src_of hd od'
  obtain ⟨kk2, b, ys, rfl, s2, d2⟩ := src_of hd2 od2
  exact ⟨a, b, xs, ys, kk1, kk2, rfl, s1.sq, s2.sq, k _ F2 H2 _ ρ2 f2 (fin.trans' fin2).drop (walkD_zipM s1 d1 s2 d2) q2⟩
end
end MS
namespace MS
open PySem PySem.Spec PyProof.Rows L2
/-! ### list(zip(a, b)) -/
theorem zip_no_len : typeLookup (.type "zip") "__len__" = pure none := am_miss_of_fast (by decide +kernel)
theorem zip_no_hint : typeLookup (.type "zip") "__length_hint__" = pure none := am_miss_of_fast (by decide +kernel)
section
variable {prog : Program} {w : World} {A : Around} {E : Value → Shared → Prop} {s : Shared} {z TI TO T i1 i2 : Addr} {fp1 fp2 : List Addr} {n1 n2 i : Nat} {P1 P2 : Nat → Value → Prop} {St1 St2 : Nat → Heap → Prop} {f : Bool} {oT : Obj}
theorem zipH_next_item {Q : Value → Shared → Prop} (S : ZipSep2 z TI TO i1 i2 fp1 fp2) (D1 : Draws prog w A i1 fp1 n1 P1 St1) (D2 : Draws prog w A i2 fp2 n2 P2 St2)
    (hz : IsZipHeld s.heap z TI TO T f) (hT : s.heap.get? T = some oT) (hTI : IsTupOf2 s.heap TI (.ref i1) (.ref i2)) (st1 : St1 i s.heap) (st2 : St2 i s.heap) (hlt1 : i < n1) (hlt2 : i < n2)
    (hQ : ∀ x1 x2 h' tk, P1 i x1 → P2 i x2 → IsZipHeld h' z TI TO T true → St1 (i + 1) h' → St2 (i + 1) h' → IsTupOf2 h' s.heap.objs.size x1 x2 → h'.objs.size = s.heap.objs.size + 1 →
      (∀ c o, c ≠ z → c ≠ i1 → c ≠ i2 → s.heap.get? c = some o → h'.get? c = some o) → Q (.ref s.heap.objs.size) { s with heap := h', toks := tk }) :
    wpAny (model prog w) A (Builtin.«zip.__next__» ⟨[.ref z], []⟩) (fun fin s' => ∃ v, fin = .done (.ret v) ∧ Q v s') E s := by
  obtain ⟨hp, g, d, tk0, os⟩ := s
  show wpAny _ _ (field (.ref z) 2 >>= _) _ _ _
  refine wpAny_bind (wpAny_field hz rfl (x := .bool false) rfl ?_)
  show wpAny _ _ (field (.ref z) 3 >>= _) _ _ _
  refine wpAny_bind (wpAny_field hz rfl (x := .ref TI) rfl ?_)
  refine wpAny_bind (wpAny_seqItems hTI rfl ?_)
  show wpAny _ _ (Builtin.SmallTypes.ownedTupleIsFree (.ref z) >>= _) _ _ _
  refine wpAny_bind (wpAny_tupleHeld_zip hz hT fun h₁ hz₁ hs₁ => ?_)
  replace hs₁ : Heap.SameBut z hp h₁ := hs₁
  simp only [Bool.false_eq_true, if_false]
  refine wpAny_bind ?_
  rw [← Array.forIn_toList]
  simp only [List.forIn_cons, List.forIn_nil]
  refine wpAny_bind (wpAny_bind (wpAny_holding ?_))
  show wpAny _ _ (Builtin.SmallTypes.nextOf (.ref i1) >>= _) _ _ ⟨h₁, g, d, tk0, os⟩
  refine wpAny_bind (D1.item i _ _ _ hlt1 (D1.over st1 hs₁ S.zf1) fun x1 p1 tk1 hx1 sn1 hp1 => wpAny_pure ?_)
  replace hp1 : Heap.SameBut i1 h₁ p1 := hp1
  refine wpAny_pure ?_
  refine wpAny_bind (wpAny_bind (wpAny_holding ?_))
  show wpAny _ _ (Builtin.SmallTypes.nextOf (.ref i2) >>= _) _ _ ⟨p1, g, d, tk1, os⟩
  refine wpAny_bind (D2.item i _ _ _ hlt2 (D2.over (D2.over st2 hs₁ S.zf2) hp1 S.sep1_2) fun x2 p2 tk2 hx2 sn2 hp2 => wpAny_pure ?_)
  replace hp2 : Heap.SameBut i2 p1 p2 := hp2
  refine wpAny_pure (wpAny_pure ?_)
  show wpAny _ _ (newTuple [x1, x2] >>= _) _ _ ⟨p2, g, d, tk2, os⟩
  refine wpAny_bind (wpAny_newTuple ?_)
  have hsz : p2.objs.size = hp.objs.size := by rw [hp2.1, hp1.1, hs₁.1]
  have hz3 : IsZipHeld p2 z TI TO T true := hp2.extBut _ _ S.zi2 (hp1.extBut _ _ S.zi1 hz₁)
  have hk : ∀ c o, c ≠ z → c ≠ i1 → c ≠ i2 → hp.get? c = some o → p2.get? c = some o := fun c o c1 c2 c3 e => hp2.extBut _ _ c3 (hp1.extBut _ _ c2 (hs₁.extBut _ _ c1 e))
  have sn1' : St1 (i + 1) p2 := D1.over sn1 hp2 S.sep2_1
  refine wpAny_pure ⟨_, rfl, ?_⟩
  show Q (.ref p2.objs.size) ⟨p2.push { cls := .type "tuple", data := .seq #[x1, x2] }, g, d, tk2, os⟩
  have hpp : IsTupOf2 (p2.push { cls := .type "tuple", data := .seq #[x1, x2] }) p2.objs.size x1 x2 := Heap.get?_push_size _ rfl
  have hz4 : (p2.push { cls := .type "tuple", data := .seq #[x1, x2] }).objs.size = p2.objs.size + 1 := Heap.size_push ..
  rw [hsz] at hpp hz4 ⊢
  exact hQ _ _ _ _ hx1 hx2 (Heap.get?_push_of_some _ hz3) (D1.frame _ _ _ sn1' fun b _ o e => Heap.get?_push_of_some _ e) (D2.frame _ _ _ sn2 fun b _ o e => Heap.get?_push_of_some _ e) hpp hz4 fun c o c1 c2 c3 e => Heap.get?_push_of_some _ (hk c o c1 c2 c3 e)
theorem zipH_next_end {Q : Fin → Shared → Prop} (S : ZipSep2 z TI TO i1 i2 fp1 fp2) (D1 : Draws prog w A i1 fp1 n1 P1 St1) (D2 : Draws prog w A i2 fp2 n2 P2 St2)
    (hz : IsZipHeld s.heap z TI TO T f) (hT : s.heap.get? T = some oT) (hTI : IsTupOf2 s.heap TI (.ref i1) (.ref i2)) (st1 : St1 i s.heap) (st2 : St2 i s.heap) (hle1 : i ≤ n1) (hle2 : i ≤ n2) (hend : i = n1 ∨ i = n2)
    (hE : ∀ h' tk e, (∀ c o, c ≠ z → c ≠ i1 → c ≠ i2 → s.heap.get? c = some o → h'.get? c = some o) → (∃ o, h'.get? e = some o ∧ o.cls = .type "StopIteration") → E (.ref e) { s with heap := h', toks := tk }) :
    wpAny (model prog w) A (Builtin.«zip.__next__» ⟨[.ref z], []⟩) Q E s := by
  obtain ⟨hp, g, d, tk0, os⟩ := s
  show wpAny _ _ (field (.ref z) 2 >>= _) _ _ _
  refine wpAny_bind (wpAny_field hz rfl (x := .bool false) rfl ?_)
  show wpAny _ _ (field (.ref z) 3 >>= _) _ _ _
  refine wpAny_bind (wpAny_field hz rfl (x := .ref TI) rfl ?_)
  refine wpAny_bind (wpAny_seqItems hTI rfl ?_)
  show wpAny _ _ (Builtin.SmallTypes.ownedTupleIsFree (.ref z) >>= _) _ _ _
  refine wpAny_bind (wpAny_tupleHeld_zip hz hT fun h₁ hz₁ hs₁ => ?_)
  replace hs₁ : Heap.SameBut z hp h₁ := hs₁
  simp only [Bool.false_eq_true, if_false]
  refine wpAny_bind ?_
  rw [← Array.forIn_toList]
  simp only [List.forIn_cons, List.forIn_nil]
  refine wpAny_bind (wpAny_bind (wpAny_holding ?_))
  show wpAny _ _ (Builtin.SmallTypes.nextOf (.ref i1) >>= _) _ _ ⟨h₁, g, d, tk0, os⟩
  by_cases hlt1 : i < n1
  · refine wpAny_bind (D1.item i _ _ _ hlt1 (D1.over st1 hs₁ S.zf1) fun x1 p1 tk1 hx1 sn1 hp1 => wpAny_pure ?_)
    replace hp1 : Heap.SameBut i1 h₁ p1 := hp1
    refine wpAny_pure ?_
    have hi2 : i = n2 := by omega
    refine wpAny_bind (wpAny_bind (wpAny_holding ?_))
    show wpAny _ _ (Builtin.SmallTypes.nextOf (.ref i2) >>= _) _ _ ⟨p1, g, d, tk1, os⟩
    refine wpAny_bind (D2.done ⟨p1, g, d, tk1, os⟩ _ _ (by rw [← hi2]; exact (D2.over (D2.over st2 hs₁ S.zf2) hp1 S.sep1_2)) fun q e hq he => ?_)
    replace hq : Heap.ExtBut i2 p1 q := hq
    exact hE q tk1 e (fun c o c1 c2 c3 x => hq _ _ c3 (hp1.extBut _ _ c2 (hs₁.extBut _ _ c1 x))) he
  · have hi1 : i = n1 := by omega
    refine wpAny_bind (D1.done ⟨h₁, g, d, tk0, os⟩ _ _ (by rw [← hi1]; exact (D1.over st1 hs₁ S.zf1)) fun q e hq he => ?_)
    replace hq : Heap.ExtBut i1 h₁ q := hq
    exact hE q tk0 e (fun c o c1 c2 c3 x => hq _ _ c2 (hs₁.extBut _ _ c1 x)) he
theorem pyNext_zipH_item {Q : Option Value → Shared → Prop} (S : ZipSep2 z TI TO i1 i2 fp1 fp2) (D1 : Draws prog w A.in1 i1 fp1 n1 P1 St1) (D2 : Draws prog w A.in1 i2 fp2 n2 P2 St2)
    (hz : IsZipHeld s.heap z TI TO T f) (hT : s.heap.get? T = some oT) (hTI : IsTupOf2 s.heap TI (.ref i1) (.ref i2)) (st1 : St1 i s.heap) (st2 : St2 i s.heap) (hlt1 : i < n1) (hlt2 : i < n2)
    (hQ : ∀ x1 x2 h' tk, P1 i x1 → P2 i x2 → IsZipHeld h' z TI TO T true → St1 (i + 1) h' → St2 (i + 1) h' → IsTupOf2 h' s.heap.objs.size x1 x2 → h'.objs.size = s.heap.objs.size + 1 →
      (∀ c o, c ≠ z → c ≠ i1 → c ≠ i2 → s.heap.get? c = some o → h'.get? c = some o) → Q (some (.ref s.heap.objs.size)) { s with heap := h', toks := tk }) :
    wpAny (model prog w) A (pyNext (.ref z)) Q E s := by
  have hTy : s.TypeIs (.ref z) "zip" := ⟨_, hz, rfl⟩
  unfold pyNext
  exact wpAny_bind (wpAny_attempt (wpAny_callSpecial?_slot (name := Str.ofString "__next__") hTy F.slot_zip_next
    (wpAny_call_entry F.slot_zip_next hTy F.entry_zip_next
      (zipH_next_item S D1 D2 hz hT hTI st1 st2 hlt1 hlt2 fun x1 x2 h' tk a1 a2 a3 a4 a5 a6 a7 a8 => wpAny_pure (hQ x1 x2 h' tk a1 a2 a3 a4 a5 a6 a7 a8)) (F.args_zip_next_1 _))))
theorem pyNext_zipH_end {Q : Option Value → Shared → Prop} (S : ZipSep2 z TI TO i1 i2 fp1 fp2) (D1 : Draws prog w A.in1 i1 fp1 n1 P1 St1) (D2 : Draws prog w A.in1 i2 fp2 n2 P2 St2)
    (hz : IsZipHeld s.heap z TI TO T f) (hT : s.heap.get? T = some oT) (hTI : IsTupOf2 s.heap TI (.ref i1) (.ref i2)) (st1 : St1 i s.heap) (st2 : St2 i s.heap) (hle1 : i ≤ n1) (hle2 : i ≤ n2) (hend : i = n1 ∨ i = n2)
    (hQ : ∀ h' tk, (∀ c o, c ≠ z → c ≠ i1 → c ≠ i2 → s.heap.get? c = some o → h'.get? c = some o) → Q none { s with heap := h', toks := tk }) : wpAny (model prog w) A (pyNext (.ref z)) Q E s := by
  have hTy : s.TypeIs (.ref z) "zip" := ⟨_, hz, rfl⟩
  unfold pyNext
  refine wpAny_bind (wpAny_attempt (wpAny_callSpecial?_slot (name := Str.ofString "__next__") hTy F.slot_zip_next
    (wpAny_call_entry F.slot_zip_next hTy F.entry_zip_next (zipH_next_end S D1 D2 hz hT hTI st1 st2 hle1 hle2 hend fun h' tk e hk he => ?_) (F.args_zip_next_1 _))))
  obtain ⟨o, ho, hc⟩ := he
  refine wpAny_bind (wpAny_isInstance (T := "StopIteration") (b := true) ⟨o, ho, hc⟩ isSubtype_stop ?_)
  exact wpAny_pure (hQ _ _ hk)
end
/-- the zip behind i pairs -/
def ZSt (k1 k2 : Bool) (a b z TI TO i1 i2 : Addr) (i : Nat) (h : Heap) : Prop :=
  IsTupOf2 h TI (.ref i1) (.ref i2) ∧ ItK k1 h i1 a i ∧ ItK k2 h i2 b i ∧ ((IsZip h z TI TO .none ∧ ∃ x y, IsTupOf2 h TO x y) ∨ ∃ T f oT oO, IsZipHeld h z TI TO T f ∧ h.get? T = some oT ∧ h.get? TO = some oO)
theorem ZSt.keep {k1 k2 : Bool} {a b z TI TO i1 i2 : Addr} {i : Nat} {h h' : Heap} (x : ZSt k1 k2 a b z TI TO i1 i2 i h) (k : ∀ c o, h.get? c = some o → c ∈ [z, TI, TO, i1, i2] → h'.get? c = some o) (t : ∀ c o, h.get? c = some o → ∃ o', h'.get? c = some o') : ZSt k1 k2 a b z TI TO i1 i2 i h' := by
  obtain ⟨h1, h2, h3, h4⟩ := x
  refine ⟨k _ _ h1 (by simp), h2.at fun o q => k _ _ q (by simp), h3.at fun o q => k _ _ q (by simp), ?_⟩
  rcases h4 with ⟨h4, x, y, h5⟩ | ⟨T, f, oT, oO, h4, h5, h7⟩
  · exact .inl ⟨k _ _ h4 (by simp), x, y, k _ _ h5 (by simp)⟩
  · obtain ⟨o', h6⟩ := t _ _ h5
    exact .inr ⟨T, f, o', oO, k _ _ h4 (by simp), h6, k _ _ h7 (by simp)⟩
/-- what the filling of the list at q keeps -/
def ZlRun (K : PySem.W.Frag) (k1 k2 : Bool) (a b q : Addr) (P : Nat → List V → Hp → Prop) (R : Hp → Prop) : Prop :=
  ∀ i acc H, P i acc H → ∃ xs ys, SqK K H k1 a xs ∧ SqK K H k2 b ys ∧ i ≤ xs.length ∧ i ≤ ys.length ∧ H q = some (.lst acc) ∧ acc.length = i ∧ xs.length ≤ sizeLine ∧
    ((xs.length = i ∨ ys.length = i) → R H) ∧
    ∀ x y T, xs[i]? = some x → ys[i]? = some y → H T = none → P (i + 1) (acc ++ [.ref T]) (upd (upd H T (.tup [x, y])) q (.lst (acc ++ [.ref T])))
section
variable {X : Cx} {pins : List (Addr × Obj)} {σ : L2.St} {A1 : Around} {k1 k2 : Bool} {a b q z TI TO i1 i2 : Addr}
theorem zl_loop {P : Nat → List V → Hp → Prop} {R : Hp → Prop} {Rs : Result → Shared → Prop} (hh : A1.handled = none) (S : ZipSep2 z TI TO i1 i2 [i1, a] [i2, b]) (na : a ≠ i1) (nb : b ≠ i2) (hrun : ZlRun X.K k1 k2 a b q P R)
    (hdone : ∀ H s, Inv X pins σ H s → R H → Rs (.ok (.ret .none)) s) :
    ∀ (m i : Nat) (acc : List V) (H : Hp) (s : Shared), i + m = sizeLine + 1 → Inv X pins σ H s → (∀ c ∈ [z, TI, TO, i1, i2], FpOk X pins H c) → ZSt k1 k2 a b z TI TO i1 i2 i s.heap → P i acc H →
      codeAny (model X.prog X.w) A1 (.builtin "list.extend.loop" ⟨[.ref q, .ref z, .none], []⟩) Rs s := by
  intro m
  induction m with
  | zero =>
    intro i acc H s hm I hf st hP
    obtain ⟨xs, ys, _, _, l1, _, _, _, l3, _⟩ := hrun i acc H hP
    omega
  | succ m ih =>
    intro i acc H s hm I hf st hP
    refine codeAny_builtin PySem.F.entry_extend_loop ?_
    rw [Around.under_plainId PySem.F.plain_extend_loop _]
    show wpAny _ A1.in1 (pyNext (.ref z) >>= _) _ _ s
    obtain ⟨xs, ys, hqx, hqy, l1, l2, hq, hacc, l3, hR, hgo⟩ := hrun i acc H hP
    obtain ⟨its, rv, p⟩ := seqK I hqx
    obtain ⟨its2, rv2, p2⟩ := seqK I hqy
    have e1 := rv.length
    have e2 := rv2.length
    have st0 := st
    obtain ⟨hTI, h1, h2, hst⟩ := st
    have D1 := drawK (prog := X.prog) (w := X.w) (A := A1.in1.in1) hh k1 i1 a na its.toArray
    have D2 := drawK (prog := X.prog) (w := X.w) (A := A1.in1.in1) hh k2 i2 b nb its2.toArray
    have zq : ∀ c ∈ [z, TI, TO, i1, i2], c ≠ q := fun c hc e => by
      have := (hf c hc).1
      rw [e, hq] at this; cases this
    by_cases hend : xs.length = i ∨ ys.length = i
    · refine wpAny_bind ?_
      have fin : ∀ h' tk, (∀ c o, c ≠ z → c ≠ TO → c ≠ i1 → c ≠ i2 → s.heap.get? c = some o → h'.get? c = some o) → Rs (.ok (.ret .none)) { s with heap := h', toks := tk } := fun h' tk hk =>
        hdone H _ (I.turnedL (t' := tk) (ch := [z, TI, TO, i1, i2]) (fun c o hb q' => hk c o (fun e => hb (by simp [e])) (fun e => hb (by simp [e])) (fun e => hb (by simp [e])) (fun e => hb (by simp [e])) q') hf) (hR hend)
      rcases hst with ⟨hz, x, y, hTO⟩ | ⟨T, f, oT, oO, hz, hT, hO⟩
      · exact wpAny_pyNext_zipD2_end S D1 D2 hz hTI hTO ⟨h1, p⟩ ⟨h2, p2⟩ (by simp; omega) (by simp; omega) (by simp; omega) fun h' tk hk => wpAny_pure (fin h' tk hk)
      · exact pyNext_zipH_end S D1 D2 hz hT hTI ⟨h1, p⟩ ⟨h2, p2⟩ (by simp; omega) (by simp; omega) (by simp; omega) fun h' tk hk => wpAny_pure (fin h' tk fun c o c1 _ c2 c3 e => hk c o c1 c2 c3 e)
    · have lx : i < xs.length := by omega
      have ly : i < ys.length := by omega
      have hx : xs[i]? = some xs[i] := List.getElem?_eq_getElem lx
      have hy : ys[i]? = some ys[i] := List.getElem?_eq_getElem ly
      obtain ⟨u, hu, ru⟩ := rv.get hx
      obtain ⟨u2, hu2, ru2⟩ := rv2.get hy
      have hzl : z < s.heap.objs.size := by
        rcases hst with ⟨hz, _⟩ | ⟨T, f, oT, oO, hz, _⟩
        · exact Heap.lt_size hz
        · exact Heap.lt_size hz
      -- behind the next one
      have key : ∀ x1 x2 h' tk, its.toArray[i]? = some x1 → its2.toArray[i]? = some x2 → ItK k1 h' i1 a (i + 1) → ItK k2 h' i2 b (i + 1) → IsTupOf2 h' s.heap.objs.size x1 x2 →
          (∃ T f oT oO, IsZipHeld h' z TI TO T f ∧ h'.get? T = some oT ∧ h'.get? TO = some oO) → (∀ c o, c ≠ z → c ≠ TO → c ≠ i1 → c ≠ i2 → s.heap.get? c = some o → h'.get? c = some o) →
          wpAny (model X.prog X.w) A1.in1 (updateSeq q (·.push (.ref s.heap.objs.size)) >>= fun _ => again (.builtin "list.extend.loop" ⟨[.ref q, .ref z, .none], []⟩))
            (fun fin s' => match fin with | .done f => Rs (.ok f) s' | .again c' => c'.quiet = true ∧ codeAny (model X.prog X.w) A1 c' Rs s') (fun e s' => Rs (.error e) s') { s with heap := h', toks := tk } := by
        intro x1 x2 h' tk y1 y2 b1 b2 hT hheld hk
        have e1 : x1 = u := by
          have : its[i]? = some x1 := by simpa using y1
          rw [hu] at this; cases this; rfl
        have e2 : x2 = u2 := by
          have : its2[i]? = some x2 := by simpa using y2
          rw [hu2] at this; cases this; rfl
        subst e1 e2
        have hfr : H s.heap.objs.size = none := I.hok.fresh (Nat.le_refl _)
        have new : ObjOk X.prog X.w (upd H s.heap.objs.size (.tup [xs[i], ys[i]])) h' s.heap.objs.size (.tup [xs[i], ys[i]]) :=
          ⟨by show 2 ≤ sizeLine; decide, [x1, x2], .cons ru (.cons ru2 .nil), ⟨_, hT, rfl, _, rfl⟩⟩
        have I1 : Inv X pins σ (upd H s.heap.objs.size (.tup [xs[i], ys[i]])) { s with heap := h', toks := tk } :=
          I.turnedNew (t' := tk) (ch := [z, TI, TO, i1, i2]) (fun c o hb q' => hk c o (fun e => hb (by simp [e])) (fun e => hb (by simp [e])) (fun e => hb (by simp [e])) (fun e => hb (by simp [e])) q') hf (Nat.le_refl _) new
        have hqT : q ≠ s.heap.objs.size := ne_of_none hq hfr
        have hq1 : upd H s.heap.objs.size (.tup [xs[i], ys[i]]) q = some (.lst acc) := by rw [upd_ne hqT]; exact hq
        obtain ⟨zz, its3, k3, r3, hl3, e3⟩ := I1.lstM hq1
        replace e3 : h'.get? q = _ := e3
        have fpT : ∀ c ∈ [z, TI, TO, i1, i2], c ≠ s.heap.objs.size := fun c hc => by
          have : c < s.heap.objs.size := by
            have e' : c = z ∨ c = TI ∨ c = TO ∨ c = i1 ∨ c = i2 := by simpa using hc
            rcases e' with r | r | r | r | r
            · rw [r]; exact hzl
            · rw [r]; exact Heap.lt_size hTI
            · rw [r]
              rcases hst with ⟨hz, x, y, hTO⟩ | ⟨T, f, oT, oO, hz, _, hO⟩
              · exact Heap.lt_size hTO
              · exact Heap.lt_size hO
            · rw [r]; obtain ⟨_, e1, _⟩ := h1.obj; exact Heap.lt_size e1
            · rw [r]; obtain ⟨_, e1, _⟩ := h2.obj; exact Heap.lt_size e1
          exact Nat.ne_of_lt this
        refine wpAny_bind (wpAny_updateSeq e3 rfl (wpAny_pure ⟨plainId_quiet PySem.F.plain_extend_loop _, ?_⟩) (by rw [List.size_toArray]; have := r3.length; omega) (by show (its3.toArray.push _).size ≤ sizeLine + 1; rw [Array.size_push, List.size_toArray]; have := r3.length; omega))
        have I2 := I1.lset (f := (·.push (Value.ref s.heap.objs.size))) (its' := its3 ++ [Value.ref s.heap.objs.size]) (t' := tk) hq1 e3 (by simp) (r3.append (.cons (show RelV (.ref s.heap.objs.size) (Value.ref s.heap.objs.size) from rfl) .nil)) (by rw [List.length_append, List.length_singleton]; omega)
        refine ih (i + 1) (acc ++ [.ref s.heap.objs.size]) _ _ (by omega) I2 (fun c hc => ?_) ?_ (hgo xs[i] ys[i] _ hx hy hfr)
        · obtain ⟨g0, g1⟩ := hf c hc
          exact ⟨by rw [upd_ne (zq c hc), upd_ne (fpT c hc)]; exact g0, g1⟩
        · have hTI' : IsTupOf2 h' TI (.ref i1) (.ref i2) := hk _ _ S.TIz S.TITO S.TIi1 S.TIi2 hTI
          have st' : ZSt k1 k2 a b z TI TO i1 i2 (i + 1) h' := ⟨hTI', b1, b2, .inr hheld⟩
          refine st'.keep (fun c o e hc => (Heap.get?_update_other _ _ (Ne.symm (zq c hc))).trans e) fun c o e => ?_
          by_cases hcq : c = q
          · rw [hcq]
            exact ⟨_, Heap.get?_update_self _ e3 rfl⟩
          · exact ⟨o, (Heap.get?_update_other _ _ (Ne.symm hcq)).trans e⟩
      refine wpAny_bind ?_
      rcases hst with ⟨hz, x, y, hTO⟩ | ⟨T, f, oT, oO, hz, hT, hO⟩
      · exact wpAny_pyNext_zipD2_item S D1 D2 hz hTI hTO ⟨h1, p⟩ ⟨h2, p2⟩ (by simp; omega) (by simp; omega) fun x1 x2 h' tk y1 y2 z' TO' h1' h2' hT hsz hk => key x1 x2 h' tk y1 y2 h1'.1 h2'.1 hT ⟨_, _, _, _, z', hT, TO'⟩ hk
      · refine pyNext_zipH_item S D1 D2 hz hT hTI ⟨h1, p⟩ ⟨h2, p2⟩ (by simp; omega) (by simp; omega) fun x1 x2 h' tk y1 y2 z' h1' h2' hT' hsz hk => key x1 x2 h' tk y1 y2 h1'.1 h2'.1 hT' (?_) fun c o c1 _ c2 c3 e => hk c o c1 c2 c3 e
        have hO' := hk _ _ S.TOz S.Ti1 S.Ti2 hO
        by_cases t1 : T = z
        · exact ⟨T, _, _, _, z', by rw [t1]; exact z', hO'⟩
        · by_cases t2 : T = i1
          · obtain ⟨o1, e1, _⟩ := h1'.1.obj
            exact ⟨T, _, _, _, z', by rw [t2]; exact e1, hO'⟩
          · by_cases t3 : T = i2
            · obtain ⟨o1, e1, _⟩ := h2'.1.obj
              exact ⟨T, _, _, _, z', by rw [t3]; exact e1, hO'⟩
            · exact ⟨T, _, _, _, z', hk _ _ t1 t2 t3 hT, hO'⟩
theorem zl_extend {P : Nat → List V → Hp → Prop} {R : Hp → Prop} {Rs : Result → Shared → Prop} {H : Hp} {s : Shared} (hh : A1.handled = none) (S : ZipSep2 z TI TO i1 i2 [i1, a] [i2, b]) (na : a ≠ i1) (nb : b ≠ i2) (hrun : ZlRun X.K k1 k2 a b q P R)
    (hdone : ∀ H s, Inv X pins σ H s → R H → Rs (.ok (.ret .none)) s) (I : Inv X pins σ H s) (hf : ∀ c ∈ [z, TI, TO, i1, i2], FpOk X pins H c) (hz0 : IsZip s.heap z TI TO .none) (st : ZSt k1 k2 a b z TI TO i1 i2 0 s.heap) (hP : P 0 [] H) (hq : H q = some (.lst [])) :
    wpAny (model X.prog X.w) A1.in1 (Builtin.List.listExtendWith (.ref q) (.ref z) .none)
      (fun fin s' => match fin with | .done f => Rs (.ok f) s' | .again c' => c'.quiet = true ∧ codeAny (model X.prog X.w) A1 c' Rs s') (fun e s' => Rs (.error e) s') s := by
  have hT : s.TypeIs (.ref z) "zip" := ⟨_, hz0, rfl⟩
  have zq : ∀ c ∈ [z, TI, TO, i1, i2], c ≠ q := fun c hc e => by
    have := (hf c hc).1
    rw [e, hq] at this; cases this
  have hqz : q ≠ z := (zq z (by simp)).symm
  unfold Builtin.List.listExtendWith
  refine wpAny_bind (wpAny_typeOf hT ?_)
  have h1 : Builtin.List.listSameRef (.ref q) (.ref z) = false := by simp [Builtin.List.listSameRef, hqz]
  have h2 : (Value.type "zip" == Value.type "list") = false := by decide
  have h3 : (Value.type "zip" == Value.type "tuple") = false := by decide
  simp only [h1, h2, h3, Bool.or_false, Bool.false_eq_true, if_false]
  refine wpAny_bind (wpAny_pyIter_zip hz0 ?_)
  refine wpAny_bind (wpAny_holding ?_)
  unfold Builtin.List.listLengthHint
  refine wpAny_bind (wpAny_specialOf hT zip_no_len ?_)
  show wpAny _ _ (specialOf (Value.ref z) (Str.ofString "__length_hint__") >>= _) _ _ _
  refine wpAny_bind (wpAny_specialOf hT zip_no_hint ?_)
  refine wpAny_pure ?_
  show wpAny _ _ (rule "list.extend.makes-room" >>= fun _ => Builtin.List.listTouch (.ref q) >>= fun _ => again (.builtin "list.extend.loop" ⟨[.ref q, .ref z, .none], []⟩)) _ _ _
  refine wpAny_bind (wpAny_rule ?_)
  refine wpAny_bind ?_
  show wpAny _ _ (updateSeq q (·.push .none) >>= fun _ => updateSeq q (·.pop)) _ _ _
  obtain ⟨z3, its, k, r3, hl3, e3⟩ := I.lstM hq
  cases r3
  refine wpAny_bind (wpAny_updateSeq e3 rfl ?_)
  have I2 := I.lset (f := (·.push Value.none)) (its' := [Value.none]) (ys := [.non]) (t' := s.toks) hq e3 (by simp) (.cons rfl .nil) (by rw [List.length_singleton, sizeLine_eq]; decide)
  obtain ⟨z4, its4, k4, r4, hl4, e4⟩ := I2.lstM upd_same
  obtain ⟨u4, rfl, ru4⟩ := r4.one
  refine wpAny_updateSeq e4 rfl ?_ (by show 1 ≤ sizeLine; rw [sizeLine_eq]; decide) (by show 0 ≤ sizeLine + 1; exact Nat.zero_le _)
  have I3 := I2.lset (f := (·.pop)) (its := [u4]) (its' := []) (ys := []) (t' := s.toks) upd_same e4 (by rfl) .nil (Nat.zero_le _)
  rw [upd_upd] at I3
  have hH : upd H q (.lst []) = H := by
    funext c
    by_cases hc : c = q
    · rw [hc, upd_same, hq]
    · rw [upd_ne hc]
  rw [hH] at I3
  refine wpAny_pure ⟨plainId_quiet PySem.F.plain_extend_loop _, zl_loop hh S na nb hrun hdone (sizeLine + 1) 0 [] H _ (by omega) I3 hf ?_ hP⟩
  refine (st.keep (h' := s.heap.update q (Obj.mapSeq (·.push Value.none))) (fun c o e hc => (Heap.get?_update_other _ _ (Ne.symm (zq c hc))).trans e) fun c o e => ?_).keep (fun c o e hc => (Heap.get?_update_other _ _ (Ne.symm (zq c hc))).trans e) fun c o e => ?_
  · by_cases hcq : c = q
    · rw [hcq]
      exact ⟨_, Heap.get?_update_self _ e3 rfl⟩
    · exact ⟨o, (Heap.get?_update_other _ _ (Ne.symm hcq)).trans e⟩
  · by_cases hcq : c = q
    · rw [hcq]
      exact ⟨_, Heap.get?_update_self _ e4 rfl⟩
    · exact ⟨o, (Heap.get?_update_other _ _ (Ne.symm hcq)).trans e⟩
theorem call_listZip {H : Hp} {s : Shared} {Q : VK} (hc : X.calm = true) (S : ZipSep2 z TI TO i1 i2 [i1, a] [i2, b]) (na : a ≠ i1) (nb : b ≠ i2) (I : Inv X pins σ H s) (hf : ∀ c ∈ [z, TI, TO, i1, i2], FpOk X pins H c) (hz0 : IsZip s.heap z TI TO .none)
    (st : ZSt k1 k2 a b z TI TO i1 i2 0 s.heap) (hgo : ∀ q, H q = none → ∃ P : Nat → List V → Hp → Prop, P 0 [] (upd H q (.lst [])) ∧ ZlRun X.K k1 k2 a b q P fun H' => Q (.ref q) H') :
    wpAny (model X.prog X.w) X.A (call (.type "list") [.ref z]) (EP X pins σ Q) X.xe s := by
  refine callType_codes (Q₁ := fun obj s₁ => obj = .ref s.heap.objs.size ∧ s₁ = { s with heap := s.heap.push { cls := .type "list", data := .seq #[] } }) PySem.F.called_list (PySem.F.typeCall_list_1 _) PySem.F.entry_list_init
    (code_list_new _ ⟨rfl, rfl⟩) fun obj s₁ h₁ => ?_
  obtain ⟨rfl, rfl⟩ := h₁
  have hS : (s.heap.push { cls := .type "list", data := .seq #[] }).get? s.heap.objs.size = some { cls := .type "list", data := .seq #[] } := Heap.get?_push_size _ rfl
  refine ⟨⟨_, hS, rfl⟩, PySem.F.args_list_init_2 _ _, ?_⟩
  have fr : H s.heap.objs.size = none := I.hok.fresh (Nat.le_refl _)
  obtain ⟨P, hP, hrun⟩ := hgo _ fr
  have I1 : Inv X pins σ (upd H s.heap.objs.size (.lst [])) { s with heap := s.heap.push { cls := .type "list", data := .seq #[] } } := I.lnew (its := []) (t' := s.toks) .nil (Nat.zero_le _)
  show wpAny _ _ (do let old ← Builtin.List.listItems (.ref s.heap.objs.size); Builtin.List.listUpdate (.ref s.heap.objs.size) (fun _ => #[]); letGo old.toList.reverse; Builtin.List.listExtendWith (.ref s.heap.objs.size) (.ref z) .none) _ _ _
  refine wpAny_bind ?_
  unfold Builtin.List.listItems
  refine wpAny_bind (wpAny_seqItems hS rfl (wpAny_pure ?_))
  show wpAny _ _ (updateSeq s.heap.objs.size (fun _ => #[]) >>= fun _ => letGo (#[] : Array Value).toList.reverse >>= fun _ => Builtin.List.listExtendWith (.ref s.heap.objs.size) (.ref z) .none) _ _ _
  refine wpAny_bind (wpAny_updateSeq hS rfl ?_)
  have I2 := I1.lset (f := fun _ => #[]) (its := []) (its' := []) (ys := []) (t' := s.toks) upd_same hS rfl .nil (Nat.zero_le _)
  rw [upd_upd] at I2
  refine wpAny_bind (wpAny_letGo ?_)
  have lt : ∀ {c : Addr} {o : Obj}, s.heap.get? c = some o → c ≠ s.heap.objs.size := fun e => Nat.ne_of_lt (Heap.lt_size e)
  have up : ∀ c o, s.heap.get? c = some o → ((s.heap.push { cls := .type "list", data := .seq #[] }).update s.heap.objs.size (Obj.mapSeq fun _ => #[])).get? c = some o := fun c o e =>
    (Heap.get?_update_other _ _ (Ne.symm (lt e))).trans (Heap.get?_push_of_some _ e)
  have ltf : ∀ c ∈ [z, TI, TO, i1, i2], c ≠ s.heap.objs.size := fun c hcm => by
    obtain ⟨hTI, h1, h2, hst⟩ := st
    have e' : c = z ∨ c = TI ∨ c = TO ∨ c = i1 ∨ c = i2 := by simpa using hcm
    rcases e' with r | r | r | r | r
    · rw [r]; exact lt hz0
    · rw [r]; exact lt hTI
    · rw [r]
      rcases hst with ⟨hz, x, y, hTO⟩ | ⟨T, f, oT, oO, hz, _, hO⟩
      · exact lt hTO
      · exact lt hO
    · rw [r]; obtain ⟨_, e1, _⟩ := h1.obj; exact lt e1
    · rw [r]; obtain ⟨_, e1, _⟩ := h2.obj; exact lt e1
  exact zl_extend (A1 := X.A.in1) (q := s.heap.objs.size) (Rs := wants (fun r s₂ => r = .none ∧ EP X pins σ Q (.ref s.heap.objs.size) s₂) X.xe) (I.ok.hd hc) S na nb hrun
    (fun H' s' I' hR => ⟨rfl, .ref s.heap.objs.size, H', I', rfl, hR⟩) I2 (fun c hcm => ⟨by rw [upd_ne (ltf c hcm)]; exact (hf c hcm).1, (hf c hcm).2⟩) (up _ _ hz0) (st.keep (fun c o e _ => up c o e) fun c o e => ⟨o, up c o e⟩) hP upd_same
end
def tZipL (K : PySem.W.Frag) (ta : TA) : TE := fun σ H Q => ta σ H fun vs H1 => ∃ a b k1 k2 xs ys, vs = [.ref a, .ref b] ∧ SqK K H1 k1 a xs ∧ SqK K H1 k2 b ys ∧
  ∀ q, H1 q = none → ∃ P : Nat → List V → Hp → Prop, P 0 [] (upd H1 q (.lst [])) ∧ ZlRun K k1 k2 a b q P fun H' => Q (.ref q) H'
theorem pe_zipL {X : Cx} {e e2 : Expr} {ta : TA} {p pos p2 pos2 : Pos} (hc : X.calm = true) (hg : Gl X "zip") (hm : X.mg "zip" = none) (hg2 : Gl X "list") (hm2 : X.mg "list" = none) (ha : PA X [e, e2] ta)
    (hs : starEach [e, e2] X.env = (false, eval e X.env) :: starEach [e2] X.env) (hpl : (backTo pos (starEach [e2] X.env)).any (·.1) = false)
    (na : starEach [.Call (.Name "zip" p) [e, e2] [] pos] X.env = (false, eval (.Call (.Name "zip" p) [e, e2] [] pos) X.env) :: starEach [] X.env) :
    PE X (.Call (.Name "list" p2) [.Call (.Name "zip" p) [e, e2] [] pos] [] pos2) (tZipL X.K ta) := by
  refine ⟨fun pins s σ H Q I h => ?_⟩
  refine Call_ (ld_blt I hg2 hm2 boot_list (PyProof.Rows.callWith_type1 (args_cons (Call_ (ld_blt I hg hm PyProof.Rows.boot_zip (PyProof.Rows.callWith_type1 (thn (ha.run pos pins s σ H _ I h) fun us s1 ⟨vs, H1, I1, r1, q1⟩ => ?_) hs hpl))) na) na))
  obtain ⟨a, b, k1, k2, xs, ys, ex, hqx, hqy, q⟩ := q1
  subst ex
  cases r1 with
  | cons r rr =>
    cases rr with
    | cons r' rr =>
      cases rr
      cases r
      cases r'
      have fresh5 : ∀ c, c ∈ [s1.heap.objs.size + 4, s1.heap.objs.size + 2, s1.heap.objs.size + 3, s1.heap.objs.size, s1.heap.objs.size + 1] → FpOk X pins H1 c := fun c hcm => by
        have e' : c = s1.heap.objs.size + 4 ∨ c = s1.heap.objs.size + 2 ∨ c = s1.heap.objs.size + 3 ∨ c = s1.heap.objs.size ∨ c = s1.heap.objs.size + 1 := by simpa using hcm
        have hle : s1.heap.objs.size ≤ c := by
          rcases e' with z | z | z | z | z
          · rw [z]; exact Nat.le_add_right _ _
          · rw [z]; exact Nat.le_add_right _ _
          · rw [z]; exact Nat.le_add_right _ _
          · rw [z]; exact Nat.le_refl _
          · rw [z]; exact Nat.le_add_right _ _
        exact I1.fpOk hle (I1.hok.fresh hle)
      obtain ⟨its, rv, p1⟩ := seqK I1 hqx
      obtain ⟨its2, rv2, p2⟩ := seqK I1 hqy
      obtain ⟨o1, B1, b1⟩ := begK k1 a its.toArray
      obtain ⟨o2, B2, b2⟩ := begK k2 b its2.toArray
      refine zip_begins2 B1 B2 p1 p2 fun h' hz hTI hTO h1 h2 hsz hk => args_nil ?_
      have I2 : Inv X pins σ H1 { s1 with heap := h' } := I1.kept (t' := s1.toks) hk
      have sep := zip_sep2 (N := s1.heap.objs.size) (fp1 := [a]) (fp2 := [b]) (fun c hc => by rw [List.mem_singleton.mp hc]; exact p1.lt) (fun c hc => by rw [List.mem_singleton.mp hc]; exact p2.lt)
      exact call_listZip hc sep (Nat.ne_of_lt p1.lt) (Nat.ne_of_lt (Nat.lt_succ_of_lt p2.lt)) I2 fresh5 hz ⟨hTI, b1 _ _ h1, b2 _ _ h2, .inl ⟨hz, _, _, hTO⟩⟩ q
section
variable {Φ : String → Spec} {X : Cx} {W : WX}
theorem zip_getI {as bs : List D} {i : Nat} {a b : D} : as[i]? = some a → bs[i]? = some b → (zipD as bs)[i]? = some (.tuple [a, b]) := by
  induction as generalizing bs i with
  | nil => intro h; simp at h
  | cons x as ih =>
    intro h1 h2
    cases bs with
    | nil => simp at h2
    | cons y bs =>
      cases i with
      | zero =>
        simp at h1 h2
        subst h1 h2
        rfl
      | succ i => exact ih (by simpa using h1) (by simpa using h2)
theorem dvA_snoc {K : PySem.W.Frag} {F : Addr → Prop} {H : Hp} : ∀ {ds : List D} {xs : List V} {d : D} {x : V}, DvA K F H ds xs → Dv K F H d x → DvA K F H (ds ++ [d]) (xs ++ [x]) := fun h1 h2 => dvA_append h1 (DvA_cons.mpr ⟨_, _, rfl, h2, DvA_nil.mpr rfl⟩)
theorem dvA_get_of {K : PySem.W.Frag} {F : Addr → Prop} {H : Hp} {ds : List D} {xs : List V} {i : Nat} {x : V} (h : DvA K F H ds xs) (e : xs[i]? = some x) : ∃ d, ds[i]? = some d ∧ Dv K F H d x := by
  have hi : i < ds.length := by
    have := (List.getElem?_eq_some_iff.mp e).1
    rw [h.length] at this; exact this
  obtain ⟨y, hy, hd⟩ := h.of_get (List.getElem?_eq_getElem hi)
  rw [e] at hy; cases hy
  exact ⟨_, List.getElem?_eq_getElem hi, hd⟩
theorem s_zipL {c1 c2 : E} {e e2 : Expr} {x y : Str} {p pos p2 pos2 : Pos} (hc : X.calm = true) (hx : x = Str.ofString "zip") (hg : Gl X x) (hm : X.mg x = none) (hy : y = Str.ofString "list") (hg2 : Gl X y) (hm2 : X.mg y = none) (h1 : PE X e (tE Φ X W c1)) (h2 : PE X e2 (tE Φ X W c2))
    (st : starEach [e, e2] X.env = (false, eval e X.env) :: starEach [e2] X.env) (st2 : starEach [e2] X.env = (false, eval e2 X.env) :: starEach [] X.env)
    (na : starEach [.Call (.Name x p) [e, e2] [] pos] X.env = (false, eval (.Call (.Name x p) [e, e2] [] pos) X.env) :: starEach [] X.env) :
    PE X (.Call (.Name y p2) [.Call (.Name x p) [e, e2] [] pos] [] pos2) (tE Φ X W (.zipL c1 c2)) := by
  subst hx hy
  refine PE.imp (pe_zipL hc hg hm hg2 hm2 (pa_cons h1 (pa_cons h2 pa_nil st2) st) st (by rw [st2]; rfl) na) fun σ H Q' ⟨F, ρ, f, Q, xe, r, x, w, k⟩ => ?_
  simp only [wpE] at w
  refine ⟨F, ρ, f, _, xe, r, x, w, fun v F1 H1 e1 ρ1 f1 g1 fin o q => ?_⟩
  refine ⟨F1, ρ1, f1, _, xe, fin.rep, x.fin fin, q, fun v2 F2 H2 e2 ρ2 f2 g2 fin2 o2 q2 => ?_⟩
  obtain ⟨ds, hd, q2⟩ := onO_some q2
  obtain ⟨ds2, hd2, q2⟩ := onO_some q2
  obtain ⟨hsz, q2⟩ := q2
  rw [seqOf_sh hd] at o
  rw [seqOf_sh hd2] at o2
  obtain ⟨fn, od⟩ := fin_sh fin o
  obtain ⟨fn2, od2⟩ := fin_sh fin2 o2
  have od' : Dv X.K F2 H2 e1.d v := Dv.chg fin2.chg fin.rep.off fin.rep.lst _ _ od
  obtain ⟨kk1, a, xs, rfl, s1, d1⟩ := src_of hd od'
  obtain ⟨kk2, b, ys, rfl, s2, d2⟩ := src_of hd2 od2
  have fin12 := (fin.trans' fin2).drop
  refine ⟨a, b, kk1, kk2, xs, ys, rfl, s1.sq, s2.sq, fun q hq => ?_⟩
  have nFq : ¬ F2 q := fun z => fin2.rep.there q z hq
  refine ⟨fun i acc H => i ≤ xs.length ∧ i ≤ ys.length ∧ H q = some (.lst acc) ∧ acc.length = i ∧ Chg F2 H2 F2 H [] ∧ DvA X.K F2 H ((zipD ds ds2).take i) acc, ⟨Nat.zero_le _, Nat.zero_le _, upd_same, rfl, chg_new hq, by rw [List.take_zero]; exact DvA_nil.mpr rfl⟩, ?_⟩
  rintro i acc H ⟨l1, l2, hqa, la, c, da⟩
  have kp : Keep X.K F2 H2 F2 H := c.keepD (by simp) (by simp)
  refine ⟨xs, ys, s1.keep kp, s2.keep kp, l1, l2, hqa, la, by rw [d1.length]; exact hsz, fun he => ?_, fun u w T hu hw hT => ?_⟩
  · have hl : (zipD ds ds2).length ≤ i := by rw [zip_len, ← d1.length, ← d2.length]; omega
    rw [List.take_of_length_le hl] at da
    have res : Res X.K F2 H2 (fun e => Q e ρ2) (.ref q) H := ⟨ownL (.list (zipD ds ds2)), [q], c, Ow_list.mpr ⟨q, acc, [], rfl, hqa, rfl, OwA_sh.mpr ⟨rfl, da⟩, trivial⟩, by simpa using hq, by simp, q2⟩
    obtain ⟨e, g, fin', o, q'⟩ := fin12.res res
    exact k _ F2 H e ρ2 f2 g fin' o q'
  · have hqT : q ≠ T := ne_of_none hqa hT
    have cT : Chg F2 H F2 (upd H T (.tup [u, w])) [] := chg_new hT
    have cq : Chg F2 (upd H T (.tup [u, w])) F2 (upd (upd H T (.tup [u, w])) q (.lst (acc ++ [.ref T]))) [q] := by
      refine ⟨fun _ h => h, fun _ h => .inl h, fun b o e n => ?_, fun b e => ?_⟩
      · rw [upd_ne (by simpa using n)]; exact e
      · by_cases hb : b = q
        · rw [hb, upd_same]; simp
        · rw [upd_ne hb]; exact e
    have off : ∀ b ∈ [q], ¬ F2 b := fun b hb => by rw [List.mem_singleton.mp hb]; exact nFq
    have lst : ∀ b ∈ [q], Mu (upd H T (.tup [u, w])) b := fun b hb => by rw [List.mem_singleton.mp hb]; exact .of (by rw [upd_ne hqT]; exact hqa)
    obtain ⟨y1, hy1, dy1⟩ := dvA_get_of d1 hu
    obtain ⟨y2, hy2, dy2⟩ := dvA_get_of d2 hw
    have hzi : (zipD ds ds2)[i]? = some (.tuple [y1, y2]) := zip_getI hy1 hy2
    refine ⟨?_, ?_, upd_same, by simp [la], ?_, ?_⟩
    · have := (List.getElem?_eq_some_iff.mp hu).1; omega
    · have := (List.getElem?_eq_some_iff.mp hw).1; omega
    · exact (c.trans cT (by simp)).trans cq fun b hb => .inr (by rw [List.mem_singleton.mp hb]; exact hq)
    · rw [List.take_succ, hzi]
      exact DvA.chg cq off lst _ _ (dvA_snoc (DvA.chg cT (by simp) (by simp) _ _ da) (pair_dv hT (Dv.chg c (by simp) (by simp) _ _ dy1) (Dv.chg c (by simp) (by simp) _ _ dy2)))
end
end MS
namespace MS
open PySem PySem.Spec PyProof.Rows L2
/-! ### list(range(a, b)), a, b of any size -/
section
variable {prog : Program} {w : World} {A : Around} {E : Value → Shared → Prop} {s : Shared}
theorem extend_long {R : Result → Shared → Prop} {r : Addr} {a b c : Int} {t u v : Tok} {n : Nat} (hh : A.handled = none) (hr : IsRange s.heap r a b c t u v) (hbig : Builtin.Range.small a b c = false)
    (hn : Builtin.Range.rangeSize a b c = n) (hlen : n ≤ 2 ^ 24) (S : Addr) (res : Value) (c₀ : Nat) (hS : s.heap.get? S = some { cls := .type "list", data := .seq #[] c₀ })
    (hR : ∀ h' tk acc' c', (∀ b o, b ≠ S → s.heap.get? b = some o → h'.get? b = some o) → h'.get? S = some { cls := .type "list", dict := none, data := .seq acc' c', slots := #[] } →
      ItemsOf (fun i v => ∃ t, v = .int (a + i * c) t) acc' n → R (.ok (.ret res)) { s with heap := h', toks := tk }) :
    wpAny (model prog w) A.in1 (Builtin.List.listExtendWith (.ref S) (.ref r) res)
      (fun fin s' => match fin with | .done f => R (.ok f) s' | .again c' => c'.quiet = true ∧ codeAny (model prog w) A c' R s') (fun e s' => R (.error e) s') s := by
  have hSr : S ≠ r := fun e => by rw [e, hr] at hS; simp at hS
  have hSlt : S < s.heap.objs.size := Heap.lt_size hS
  have hSI : S ≠ s.heap.objs.size := Nat.ne_of_lt hSlt
  have hSf : S ∉ [s.heap.objs.size] := fun hm => hSI (List.mem_singleton.mp hm)
  have W := (Walks.longrange (prog := prog) (w := w) (A := A.in1) hh s.heap.objs.size a c n).toS
  have key : ∀ (h : Heap) (c₁ tk : Nat), IsLongIter h s.heap.objs.size (a + ((0 : Nat) : Int) * c) ((n : Int) - ((0 : Nat) : Int)) c → (∀ b o, b ≠ S → s.heap.get? b = some o → h.get? b = some o) →
      h.get? S = some { cls := .type "list", data := .seq #[] c₁ } → codeAny (model prog w) A (.builtin "list.extend.loop" ⟨[.ref S, .ref s.heap.objs.size, res], []⟩) R { s with heap := h, toks := tk } := by
    intro h c₁ tk hit hk hS₁
    refine codeAny_extend_loopS W (by rw [sizeLine_eq]; omega) S hSf res n 0 _ #[] c₁ rfl (Nat.zero_le _) hit hS₁ (ItemsOf.nil _) fun s' acc' c' hm hS' hacc => ?_
    rw [Moved.eq_with hm]
    refine hR s'.heap s'.toks acc' c' (fun b o hb e => hm.heap b o (fun hmem => ?_) (hk b o hb e)) hS' hacc
    rcases List.mem_cons.mp hmem with e' | hmem
    · exact hb e'
    · exact absurd (Heap.lt_size e) (by rw [List.mem_singleton.mp hmem]; exact Nat.lt_irrefl _)
  unfold Builtin.List.listExtendWith
  refine wpAny_bind (wpAny_typeOf ⟨_, hr, rfl⟩ ?_)
  have h1 : Builtin.List.listSameRef (.ref S) (.ref r) = false := by simp [Builtin.List.listSameRef, hSr]
  have h2 : (Value.type "range" == Value.type "list") = false := by decide
  have h3 : (Value.type "range" == Value.type "tuple") = false := by decide
  simp only [h1, h2, h3, Bool.or_false, Bool.false_eq_true, if_false]
  refine wpAny_bind (wpAny_pyIter_longrange hr hbig ?_)
  refine wpAny_bind (wpAny_holding (wpAny_hint_range (n := n) (Heap.get?_push_of_some _ hr) hn hlen ?_))
  have hit₁ : IsLongIter (s.heap.push { cls := .type "longrange_iterator", data := .fields #[rawInt a, rawInt (Builtin.Range.rangeSize a b c), rawInt c] }) s.heap.objs.size (a + ((0 : Nat) : Int) * c) ((n : Int) - ((0 : Nat) : Int)) c := by
    show IsLongIter _ _ _ _ _; rw [hn]; simpa using Heap.get?_push_size _ rfl
  have hS₁ := Heap.get?_push_of_some { cls := .type "longrange_iterator", data := .fields #[rawInt a, rawInt (Builtin.Range.rangeSize a b c), rawInt c] } hS
  refine wpAny_ite_split (fun _ => ?_) (fun _ => wpAny_pure ⟨plainId_quiet F.plain_extend_loop _, key _ c₀ _ hit₁ (fun b o _ e => Heap.get?_push_of_some _ e) hS₁⟩)
  refine wpAny_bind (wpAny_rule ?_)
  refine wpAny_bind ?_
  show wpAny _ _ (updateSeq S (·.push .none) >>= fun _ => updateSeq S (·.pop)) _ _ _
  refine wpAny_bind (wpAny_updateSeq hS₁ rfl ?_)
  have hS₂ := Heap.get?_update_self (Obj.mapSeq (·.push Value.none)) hS₁ rfl
  refine wpAny_updateSeq (hz := by seq_fits) hS₂ rfl ?_
  have hS₃ := Heap.get?_update_self (Obj.mapSeq (·.pop)) hS₂ rfl
  refine wpAny_pure ⟨plainId_quiet F.plain_extend_loop _, key _ _ _ ?_ (fun b o hb e => ?_) hS₃⟩
  · exact (Heap.get?_update_other _ _ hSI).trans ((Heap.get?_update_other _ _ hSI).trans hit₁)
  · exact (Heap.get?_update_other _ _ (Ne.symm hb)).trans ((Heap.get?_update_other _ _ (Ne.symm hb)).trans (Heap.get?_push_of_some _ e))
theorem init_long {R : Result → Shared → Prop} {r : Addr} {a b c : Int} {t u v : Tok} {n : Nat} (hh : A.handled = none) (hr : IsRange s.heap r a b c t u v) (hbig : Builtin.Range.small a b c = false)
    (hn : Builtin.Range.rangeSize a b c = n) (hlen : n ≤ 2 ^ 24) (S : Addr) (hS : s.heap.get? S = some { cls := .type "list", data := .seq #[] })
    (hR : ∀ h' tk acc' c', (∀ b o, b ≠ S → s.heap.get? b = some o → h'.get? b = some o) → h'.get? S = some { cls := .type "list", dict := none, data := .seq acc' c', slots := #[] } →
      ItemsOf (fun i v => ∃ t, v = .int (a + i * c) t) acc' n → R (.ok (.ret .none)) { s with heap := h', toks := tk }) :
    wpAny (model prog w) A.in1 (Builtin.«list.__init__» ⟨[.ref S, .ref r], []⟩)
      (fun fin s' => match fin with | .done f => R (.ok f) s' | .again c' => c'.quiet = true ∧ codeAny (model prog w) A c' R s') (fun e s' => R (.error e) s') s := by
  have hSr : S ≠ r := fun e => by rw [e, hr] at hS; simp at hS
  show wpAny _ _ (do let old ← Builtin.List.listItems (.ref S); Builtin.List.listUpdate (.ref S) (fun _ => #[]); letGo old.toList.reverse; Builtin.List.listExtendWith (.ref S) (.ref r) .none) _ _ s
  refine wpAny_bind ?_
  unfold Builtin.List.listItems
  refine wpAny_bind (wpAny_seqItems hS rfl (wpAny_pure ?_))
  show wpAny _ _ (updateSeq S (fun _ => #[]) >>= fun _ => letGo (#[] : Array Value).toList.reverse >>= fun _ => Builtin.List.listExtendWith (.ref S) (.ref r) .none) _ _ s
  refine wpAny_bind (wpAny_updateSeq hS rfl ?_)
  have hS₂ := Heap.get?_update_self (Obj.mapSeq (fun _ => (#[] : Array Value))) hS rfl
  have oth : ∀ b o, b ≠ S → s.heap.get? b = some o → (s.heap.update S (Obj.mapSeq (fun _ => (#[] : Array Value)))).get? b = some o :=
    fun b o hb e => (Heap.get?_update_other _ _ (Ne.symm hb)).trans e
  refine wpAny_bind (wpAny_letGo ?_)
  refine extend_long hh (oth r _ (Ne.symm hSr) hr) hbig hn hlen S .none _ hS₂ fun h' tk acc' c' hk hS' hacc => ?_
  exact hR h' tk acc' c' (fun b o hb e => hk b o hb (oth b o hb e)) hS' hacc
theorem call_list_long {Q : Value → Shared → Prop} {r : Addr} {a b c : Int} {t u v : Tok} {n : Nat} (hh : A.handled = none) (hr : IsRange s.heap r a b c t u v) (hbig : Builtin.Range.small a b c = false)
    (hn : Builtin.Range.rangeSize a b c = n) (hlen : n ≤ 2 ^ 24)
    (hQ : ∀ h' tk acc' c', (∀ b o, s.heap.get? b = some o → h'.get? b = some o) →
      h'.get? s.heap.objs.size = some { cls := .type "list", dict := none, data := .seq acc' c', slots := #[] } → ItemsOf (fun i v => ∃ t, v = .int (a + i * c) t) acc' n → Q (.ref s.heap.objs.size) { s with heap := h', toks := tk }) :
    wpAny (model prog w) A (call (.type "list") [.ref r]) Q E s := by
  refine callType_codes (Q₁ := fun obj s₁ => obj = .ref s.heap.objs.size ∧ s₁ = { s with heap := s.heap.push { cls := .type "list", data := .seq #[] } }) F.called_list (F.typeCall_list_1 _) F.entry_list_init
    (code_list_new _ ⟨rfl, rfl⟩) fun obj s₁ h₁ => ?_
  obtain ⟨rfl, rfl⟩ := h₁
  have hS : (s.heap.push { cls := .type "list", data := .seq #[] }).get? s.heap.objs.size = some { cls := .type "list", data := .seq #[] } := Heap.get?_push_size _ rfl
  refine ⟨⟨_, hS, rfl⟩, F.args_list_init_2 _ _, init_long (A := A.in1) hh (Heap.get?_push_of_some _ hr) hbig hn hlen _ hS fun h' tk acc' c' hk hS' hacc => ?_⟩
  exact ⟨rfl, hQ h' tk acc' c' (fun b o e => hk b o (Nat.ne_of_lt (Heap.lt_size e)) (Heap.get?_push_of_some _ e)) hS' hacc⟩
end
section
variable {X : Cx} {e : Expr} {te : L2.St → Hp → (Int → Int → Hp → Prop) → Prop}
theorem pe_listRgW {p pos : Pos} (hc : X.calm = true) (hg : Gl X "list") (hm : X.mg "list" = none) (he : PRg X e te) (na : starEach [e] X.env = (false, eval e X.env) :: starEach [] X.env) :
    PE X (.Call (.Name "list" p) [e] [] pos) (fun σ H Q => te σ H fun a b H1 => (b - a).toNat ≤ 2 ^ 24 ∧ ∀ q, H1 q = none → Q (.ref q) (upd H1 q (.lst (rgV a b)))) := by
  refine ⟨fun pins s σ H Q I h => ?_⟩
  refine Call_ (ld_blt I hg hm boot_list (PyProof.Rows.callWith_type1 (args_cons (thn (he pins s σ H _ I h) fun x s1 ⟨r, a, b, t, u, v, H1, ex, hr, I1, b5, q⟩ => args_nil ?_) na) na))
  subst ex
  have fin : ∀ h' tk (acc : Array Value) (c' : Nat), (∀ b o, s1.heap.get? b = some o → h'.get? b = some o) → h'.get? s1.heap.objs.size = some { cls := .type "list", dict := none, data := .seq acc c', slots := #[] } →
      ItemsOf (fun i v => ∃ t, v = .int (a + i * 1) t) acc (b - a).toNat → EP X pins σ Q (.ref s1.heap.objs.size) { s1 with heap := h', toks := tk } := fun h' tk acc c' hk e' hi => by
    refine ⟨.ref s1.heap.objs.size, upd H1 s1.heap.objs.size (.lst (rgV a b)), I1.laid hk (Nat.le_refl _) (show ObjOk X.prog X.w _ _ _ (.lst (rgV a b)) from ⟨?_, acc.toList, c', vals_rg hi, ?_⟩), rfl, q _ (I1.hok.fresh (Nat.le_refl _))⟩
    · rw [rgV_length, sizeLine_eq]; omega
    · rw [Array.toArray_toList]; exact e'
  cases hs : Builtin.Range.small a b 1 with
  | true => exact call_list_range (n := (b - a).toNat) (I1.ok.hd hc) hr hs (rangeSize_nat a b) b5 fin
  | false => exact call_list_long (n := (b - a).toNat) (I1.ok.hd hc) hr hs (rangeSize_nat a b) b5 fin
end
end MS
/-! `set` of a list of whole numbers, as a set that can be walked -/
namespace MS
open PySem PySem.Spec PyProof.Rows L2
section
variable {P : Program} {w : World} {A : Around} {E : Value → Shared → Prop} {s : Shared}
/-- the set that `set(..)` begins with -/
abbrev emS (w : World) : Obj := { cls := .type "set", dict := none, data := .set #[] 0 (.fresh 0 0 (!w.params.followText "set-order")) }
abbrev begun (w : World) (s : Shared) : Shared := { s with heap := s.heap.push (emS w) }
/-- what is known once it is filled -/
def SetDone (w : World) (s : Shared) (ns : List Int) (t : Shared) : Prop :=
  ∃ (g : Heap) (k c : Nat), t = { s with heap := g, toks := k } ∧ SetR w g s.heap.objs.size (fun j => decide (j ∈ ns)) c ∧ c ≤ ns.length ∧ ∀ b u, s.heap.get? b = some u → g.get? b = some u
theorem set_fill {l : Addr} {items : Array Value} {ns : List Int} (calm : A.handled = none) (il : s.heap.IsList l items) (hi : IntsAre items.toList ns) (few : ns.length + 1 < scanBound) :
    codeAny (model P w) A (.call (.builtin "set.__init__") ⟨[.ref s.heap.objs.size, .ref l], []⟩) (wants (fun r t => r = .none ∧ SetDone w s ns t) E) (begun w s) := by
  have eS : (begun w s).heap.get? s.heap.objs.size = some (emS w) := Heap.get?_push_size _ rfl
  have hT : Shared.TypeIs (begun w s) (.ref s.heap.objs.size) "set" := ⟨_, eS, rfl⟩
  have e2 : items.size = ns.length := (Array.length_toList).symm.trans (IntsAre.length hi)
  refine codeAny_call_builtin F.called_set.init.plain F.entry_set_init (check_set_init_1 hT ?_)
  have il0 : (begun w s).heap.IsList l items := il.push _
  obtain ⟨⟨cls, dct, dat, slt⟩, at_, rfl, ep, rfl⟩ := il
  have at0 : (begun w s).heap.get? l = some { cls := .type "list", dict := dct, data := .seq items ep, slots := slt } := Heap.get?_push_of_some _ at_
  have q1 := F.sub_list_set
  have q2 := F.sub_list_frozenset
  have q3 : (Value.type "list" == Value.type "dict") = false := by decide
  unfold Builtin.«set.__init__» noKeywords Builtin.Frozenset.updateFrom
  generalize hp : pyIter = walker
  wp_walk
  subst hp
  refine wpAny_pyIter_list il0 (wpAny_bind (wpAny_runValue ?_))
  have lt : l < s.heap.objs.size := Heap.lt_size at_
  have sz : (begun w s).heap.objs.size = s.heap.objs.size + 1 := Heap.size_push ..
  have ne : l ≠ (begun w s).heap.objs.size := fun z => Nat.ne_of_lt (Nat.lt_succ_of_lt lt) (z.trans sz)
  have out : s.heap.objs.size ∉ [(begun w s).heap.objs.size, l] := by
    intro z
    rcases List.mem_cons.mp z with z | z
    · exact Nat.ne_of_lt (Nat.lt_succ_self _) (z.trans sz)
    · exact Nat.ne_of_gt lt (List.mem_singleton.mp z)
  have each : ∀ (i : Nat) (v : Value), items[i]? = some v → ∃ k t, ns[i]? = some k ∧ v = .int k t := fun i v e => by
    have lt2 : i < ns.length := e2 ▸ (Array.getElem?_eq_some_iff.mp e).1
    obtain ⟨t, ev⟩ := IntsAre.int_at hi i v (by rw [Array.getElem?_toList]; exact e)
    refine ⟨ns[i], t, List.getElem?_eq_getElem lt2, ?_⟩
    rw [ev, List.getD_eq_getElem?_getD, List.getElem?_eq_getElem lt2] <;> rfl
  have it := Heap.get?_push_size (begun w s).heap (o := { cls := .type "list_iterator", data := .fields #[.ref l, .int 0 0] }) rfl
  have st := Heap.get?_push_of_some { cls := .type "list_iterator", data := .fields #[.ref l, .int 0 0] } eS
  refine set_update_ints ((Walks.list (by simp [calm]) _ l ne items).toS) s.heap.objs.size out ns e2 few each (items.size - 0) 0 _ rfl (Nat.zero_le _) ⟨⟨_, it, rfl, rfl⟩, il0.push _⟩ ⟨0, Nat.le_refl 0, setR_new_at st⟩ ?_
  rintro ⟨g, gs, dr, tk, os⟩ c mv hc hS
  obtain rfl : gs = s.gens := mv.gens
  obtain rfl : dr = s.drawn := mv.drawn
  obtain rfl : os = s.os := mv.os
  refine wpAny_pure ?_
  show wpAny _ _ (ret Value.none) _ _ _
  refine wpAny_pure ⟨rfl, g, tk, c, rfl, hS, e2 ▸ hc, fun b u e => ?_⟩
  have lb := Heap.lt_size e
  refine mv.heap b u (fun z => ?_) (Heap.get?_push_of_some _ (Heap.get?_push_of_some _ e))
  rcases List.mem_cons.mp z with z | z
  · exact Nat.ne_of_lt lb z
  · exact Nat.ne_of_lt (Nat.lt_succ_of_lt lb) ((List.mem_singleton.mp z).trans sz)
/-- set(l) of a list, whatever fills it -/
theorem set_made {l : Addr} {Done : Shared → Prop} {Q : Value → Shared → Prop}
    (fill : codeAny (model P w) A.in1 (.call (.builtin "set.__init__") ⟨[.ref s.heap.objs.size, .ref l], []⟩) (wants (fun r t => r = .none ∧ Done t) E) (begun w s))
    (fin : ∀ t, Done t → Q (.ref s.heap.objs.size) t) : wpAny (model P w) A (call (.type "set") [.ref l]) Q E s := by
  obtain ⟨m0, ms, emro⟩ := F.called_set.mro
  have k1 := F.called_set.made
  have k2 := F.called_set.sub
  have k3 := F.called_set.notType
  have k4 := F.called_set.canCreate
  have k5 := F.typeCall_set_1 (.ref l)
  refine wpAny_call (codeAny_of_tree (wpAny_pure ⟨Code.quiet_builtin _ (by decide +kernel), codeAny_builtin F.entry_type_call ?_⟩))
  rw [Around.under_plain (weight_type_call_type "set" [.ref l] []) rfl]
  repeat (any_goals (first | assumption | wp_step))
  refine codeAny_mono (code_set_led1 (.ref l) (E := E) (Q₁ := fun v t => v = .ref s.heap.objs.size ∧ t = begun w s) ⟨rfl, rfl⟩) fun r t hr => ?_
  cases r with
  | error e => exact hr
  | ok f =>
    cases f with
    | ret v =>
      obtain ⟨rfl, rfl⟩ := hr
      have eS : (begun w s).heap.get? s.heap.objs.size = some (emS w) := Heap.get?_push_size _ rfl
      have hT : Shared.TypeIs (begun w s) (.ref s.heap.objs.size) "set" := ⟨_, eS, rfl⟩
      have k6 := F.called_set.init.lookup
      have k7 := F.called_set.init.bind (.ref s.heap.objs.size)
      repeat (any_goals (first | assumption | wp_step))
      refine codeAny_mono fill fun r2 t2 h2 => ?_
      cases r2 with
      | error e => exact h2
      | ok f2 =>
        cases f2 with
        | ret v2 =>
          obtain ⟨rfl, done⟩ := h2
          have := fin t2 done
          repeat (any_goals (first | assumption | wp_step))
        | _ => exact h2.elim
    | _ => exact hr.elim
/-- .. of whole numbers -/
theorem set_of_list {l : Addr} {items : Array Value} {ns : List Int} {Q : Value → Shared → Prop} (calm : A.handled = none) (il : s.heap.IsList l items) (hi : IntsAre items.toList ns) (few : ns.length + 1 < scanBound)
    (fin : ∀ t, SetDone w s ns t → Q (.ref s.heap.objs.size) t) : wpAny (model P w) A (call (.type "set") [.ref l]) Q E s :=
  set_made (set_fill (show A.in1.handled = none by simp [calm]) il hi few) fin
end
end MS
namespace MS
open PySem PySem.Spec PyProof.Rows L2
/-! ### range(a, b) walked, a, b of any size; sorted(set(t)) -/
theorem turn_long {P : Program} {w : World} {K : PySem.W.Frag} {tg : Expr} (j : Addr) (lo : Int) (n : Nat) :
    Turn P w K tg (Itr lo n) [j] j (fun i h => IsLongIter h j (lo + (i : Nat) * 1) ((n : Int) - (i : Nat)) 1) where
  mem := List.mem_singleton.mpr rfl
  obj := fun i h x b hb => by
    rw [List.mem_singleton] at hb
    rw [hb]
    refine ⟨_, x, fun v z => ?_⟩
    have z2 : Data.fields _ = Data.cell v := z
    cases z2
  keep := fun i h h2 x k => k j (List.mem_singleton.mpr rfl) _ x
  item := by
    intro X e1 e2 e3 hc i pins s σ H E I fo x hg
    subst e1 e2 e3
    obtain ⟨a0, a1, a2, a3, a4, a5⟩ := fo j (List.mem_singleton.mpr rfl)
    have wk := Walks.longrange (prog := X.prog) (w := X.w) (I.ok.hd hc) j lo 1 n
    refine wk.item i s _ _ hg x fun v h2 tk hv x2 kk => ?_
    obtain ⟨t, ev⟩ := hv
    subst ev
    have J : Inv X pins σ H { s with heap := h2, toks := tk } := I.turned (fun b o hb e => kk b o (fun m => hb (List.mem_singleton.mp m)) e) a0 a1 a3 a4 a5
    refine ⟨_, rfl, go_of (s := { s with heap := h2, toks := tk }) (n := "longrange_iterator") x2 rfl rfl (by decide) ⟨.int (lo + i), H, J, ⟨t, ?_⟩, ⟨rfl, rfl⟩, x2, fun b hb => (fo b hb).1⟩⟩
    rw [Int.mul_one]
  done := by
    intro X e1 e2 e3 hc i pins s σ H E I fo x hg
    subst e1 e2 e3
    obtain ⟨a0, a1, a2, a3, a4, a5⟩ := fo j (List.mem_singleton.mpr rfl)
    have hle : n ≤ i := hg
    exact wpAny_pyNext_long_end (I.ok.hd hc) x (by omega) fun h2 eb => ⟨rfl, I.turned (t' := s.toks) (fun b o hb e => eb b o hb e) a0 a1 a3 a4 a5⟩
  self := fun _ _ _ _ _ x h => wpAny_pyIter_longiter x h
section
variable {X : Cx} {tg : Expr}
theorem small_true {a b : Int} (h : Builtin.Range.small a b 1 = true) : True := trivial
/-- a range object just made, of any size, walked -/
theorem range_any {pins : List (Addr × Obj)} {σ : L2.St} {H : Hp} {s : Shared} {R : It → Hp → Prop} {E : Value → Shared → Prop} {lo hi : Int} {t u v : Tok} {tk : Nat} (I : Inv X pins σ H s)
    (q : R (Itr lo (hi - lo).toNat) H) : wpAny (model X.prog X.w) X.A (pyIter (.ref s.heap.objs.size)) (PIE X pins σ tg R) E { s with heap := s.heap.push { cls := .type "range", data := .fields #[.int lo t, .int hi u, .int 1 v] }, toks := tk } := by
  generalize hr : s.heap.push { cls := .type "range", data := .fields #[.int lo t, .int hi u, .int 1 v] } = hp
  have J : Inv X pins σ H { s with heap := hp, toks := tk } := I.kept fun b o e => by rw [← hr]; exact Heap.get?_push_of_some _ e
  have IR : IsRange hp s.heap.objs.size lo hi 1 t u v := by rw [← hr]; exact IsRange.new ..
  have sz : s.heap.objs.size ≤ hp.objs.size := by rw [← hr, Heap.size_push]; exact Nat.le_succ _
  have e0 : lo + ((0 : Nat) : Int) * 1 = lo := by simp
  have e2 : (((hi - lo).toNat : Nat) : Int) - ((0 : Nat) : Int) = Builtin.Range.rangeSize lo hi 1 := by rw [rangeSize_one]; split <;> omega
  have fpo : ∀ b ∈ [hp.objs.size], _ := fun b hb => (List.mem_singleton.mp hb).symm ▸ I.fpOk sz (I.hok.fresh sz)
  cases hs : Builtin.Range.small lo hi 1 with
  | true =>
    refine wpAny_pyIter_range IR hs ?_
    refine ⟨hp.objs.size, [hp.objs.size], _, _, H, rfl, J.kept (t' := tk) fun b o e => Heap.get?_push_of_some _ e, turn_range _ lo (hi - lo).toNat, ?_, fpo, q⟩
    show IsRangeIter _ _ (lo + ((0 : Nat) : Int) * 1) ((((hi - lo).toNat : Nat) : Int) - ((0 : Nat) : Int)) 1
    rw [e0, e2]
    exact Heap.get?_push_size _ rfl
  | false =>
    refine wpAny_pyIter_longrange IR hs ?_
    refine ⟨hp.objs.size, [hp.objs.size], _, _, H, rfl, J.kept (t' := tk) fun b o e => Heap.get?_push_of_some _ e, turn_long _ lo (hi - lo).toNat, ?_, fpo, q⟩
    show IsLongIter _ _ (lo + ((0 : Nat) : Int) * 1) ((((hi - lo).toNat : Nat) : Int) - ((0 : Nat) : Int)) 1
    rw [e0, e2]
    exact Heap.get?_push_size _ rfl
def iRngW (ta : TA) : TI := fun σ H R => ta σ H fun vs H1 => ∃ i j : Int, vs = [.int i, .int j] ∧ R (Itr i (j - i).toNat) H1
theorem pi_rangeW {a b : Expr} {ta : TA} {p pos : Pos} (hg : Gl X "range") (hm : X.mg "range" = none) (ha : PA X [a, b] ta) (st : starEach [a, b] X.env = [(false, eval a X.env), (false, eval b X.env)]) (st2 : starEach [b] X.env = [(false, eval b X.env)]) :
    PI X tg (.Call (.Name "range" p) [a, b] [] pos) (iRngW ta) := by
  refine ⟨fun pins s σ H R I h => ?_⟩
  refine Call_ (ld_blt I hg hm boot_range (PyProof.Rows.callWith_type1 (thn (ha.run pos pins s σ H _ I h) fun us s1 ⟨vs, H1, I1, rv, q1⟩ => ?_) (by rw [st, st2]) (by rw [st2]; rfl)))
  obtain ⟨i, j, ev, q⟩ := q1
  subst ev
  obtain ⟨u1, u2, rfl⟩ : ∃ u1 u2, us = [u1, u2] := by
    cases rv with
    | cons _ rr =>
      cases rr with
      | cons _ r3 => cases r3; exact ⟨_, _, rfl⟩
  have r1 : ∃ t, u1 = .int i t := by cases rv with | cons r _ => exact r
  have r2 : ∃ t, u2 = .int j t := by
    cases rv with
    | cons _ rr => cases rr with | cons r _ => exact r
  obtain ⟨t1, rfl⟩ := r1
  obtain ⟨t2, rfl⟩ := r2
  exact call_range_2 (range_any I1 q)
end
section
variable {Φ : String → Spec} {X : Cx} {W : WX} {tg : Expr}
theorem s_rngW {a b : E} {e e2 : Expr} {x : Str} {p pos : Pos} (hx : x = Str.ofString "range") (hg : Gl X x) (hm : X.mg x = none) (h : PE X e (tE Φ X W a)) (h2 : PE X e2 (tE Φ X W b)) (hs2 : starEach [e2] X.env = [(false, eval e2 X.env)]) (hs : starEach [e, e2] X.env = [(false, eval e X.env), (false, eval e2 X.env)]) :
    PI X tg (.Call (.Name x p) [e, e2] [] pos) (tIt Φ X W (.rngW a b)) := by
  subst hx
  refine PI.imp (pi_rangeW hg hm (pa_cons h (pa_one h2 hs2) (by rw [hs, hs2])) hs hs2) fun σ H R ⟨F, ρ, f, Q, xe, r, x, w, k⟩ => ?_
  simp only [wpI] at w
  refine ⟨F, ρ, f, _, xe, r, x, w, fun v F1 H1 e1 ρ1 f1 g1 fin o q => ?_⟩
  refine ⟨F1, ρ1, f1, _, xe, fin.rep, x.fin fin, q, fun v2 F2 H2 e2 ρ2 f2 g2 fin2 o2 q2 => ?_⟩
  obtain ⟨p1, d1⟩ := e1
  obtain ⟨p2, d2⟩ := e2
  cases d1 <;> first | exact q2.elim | skip
  cases d2 <;> first | exact q2.elim | skip
  exact ⟨_, _, by rw [o.int, o2.int], k _ F2 H2 _ ρ2 f2 (fin.trans' fin2).drop walkD_rg q2⟩
end
/-- sorted(set(t)), t a tuple of ints -/
def tSset (K : PySem.W.Frag) (te : TE) : TE := fun σ H Q => te σ H fun v H1 => ∃ (a : Addr) (ns : List Int), v = .ref a ∧ (SqT K H1 a (ns.map V.int) ∨ SqL K H1 a (ns.map V.int)) ∧ ns.length ≤ 60 ∧
  ∀ (out : List Int) (p : Addr), out.Pairwise (· < ·) → (∀ k, k ∈ out ↔ k ∈ ns) → H1 p = none → Q (.ref p) (upd H1 p (.lst (out.map V.int)))
theorem pe_sset {X : Cx} {e : Expr} {te : TE} {p pos p2 pos2 : Pos} (hc : X.calm = true) (hg : Gl X "set") (hm : X.mg "set" = none) (hg2 : Gl X "sorted") (hm2 : X.mg "sorted" = none) (he : PE X e te) (st : starEach [e] X.env = (false, eval e X.env) :: starEach [] X.env)
    (na : starEach [.Call (.Name "set" p) [e] [] pos] X.env = (false, eval (.Call (.Name "set" p) [e] [] pos) X.env) :: starEach [] X.env) :
    PE X (.Call (.Name "sorted" p2) [.Call (.Name "set" p) [e] [] pos] [] pos2) (tSset X.K te) := by
  refine ⟨fun pins s σ H Q I h => ?_⟩
  refine Call_ (ld_blt I hg2 hm2 PyProof.Rows.boot_sorted (PyProof.Rows.callWith_builtin1 (args_cons (Call_ (ld_blt I hg hm PyProof.Rows.boot_set (PyProof.Rows.callWith_type1 (args_cons (thn (he.run pins s σ H _ I h) fun v s1 ⟨x, H1, I1, r1, q1⟩ => args_nil ?_) st) st rfl))) na) na rfl))
  obtain ⟨a, ns, ex, hq, hl, q⟩ := q1
  subst ex
  cases r1
  have hd := I1.ok.hd hc
  have sorts : ∀ (h2 : Heap) (tk c : Nat), SetR X.w h2 s1.heap.objs.size (fun j => decide (j ∈ ns)) c → c ≤ ns.length → (∀ b u, s1.heap.get? b = some u → h2.get? b = some u) → wpAny (model X.prog X.w) X.A (call (.builtin "sorted") [.ref s1.heap.objs.size]) (EP X pins σ Q) X.xe { s1 with heap := h2, toks := tk } := by
    intro h2 tk c R1 hcn k1
    refine sorted_set (s := { s1 with heap := h2, toks := tk }) R1 hd (by omega) fun s2 p3 out c2 ms k2 g2 o2 hp hat hI hpw hmem hlen => ?_
    have kall : ∀ b u, s1.heap.get? b = some u → s2.heap.get? b = some u := fun b u e => k2 b u (k1 b u e)
    have hle : s1.heap.objs.size ≤ p3 := Nat.le_trans (Nat.le_of_lt (Heap.lt_size R1.choose_spec.choose_spec.choose_spec.choose_spec.1)) hp
    have new : ObjOk X.prog X.w (upd H1 p3 (.lst (ms.map V.int))) s2.heap p3 (.lst (ms.map V.int)) := by
      refine ⟨?_, out.toList, c2, vals_of_ints hI, ?_⟩
      · rw [List.length_map, sizeLine_eq]; omega
      · rw [Array.toArray_toList]; exact hat
    refine ⟨.ref p3, upd H1 p3 (.lst (ms.map V.int)), I1.call' (ch := []) o2 (Un.laid kall hle (I1.hok.fresh hle)) (I1.hok.laid kall hle new) (by rw [g2]; exact I1.bare) (fun _ z => nomatch z), rfl, q ms p3 hpw (fun k => ?_) (I1.hok.fresh hle)⟩
    rw [hmem k, decide_eq_true_eq]
  rcases hq with hq | hq
  · obtain ⟨its, rv, pt, hz⟩ := I1.tuple hq
    have hi : IntsAre its.toArray.toList ns := ints_of_vals rv
    exact call_set_tupI ns hd (show s1.heap.IsTuple a its.toArray from pt) hi (by unfold scanBound; omega) fun h2 tk c R1 hcn k1 => args_nil (sorts h2 tk c R1 hcn k1)
  · obtain ⟨its, rv, pl, hz⟩ := I1.list hq
    have hi : IntsAre its.toArray.toList ns := ints_of_vals rv
    refine set_of_list hd pl.isList hi (by unfold scanBound; omega) fun t ⟨h2, tk, c, e, R1, hcn, k1⟩ => ?_
    subst e
    exact args_nil (sorts h2 tk c R1 hcn k1)
section
variable {Φ : String → Spec} {X : Cx} {W : WX}
theorem s_sset {c : E} {e : Expr} {x y : Str} {p pos p2 pos2 : Pos} (hc : X.calm = true) (hx : x = Str.ofString "set") (hg : Gl X x) (hm : X.mg x = none) (hy : y = Str.ofString "sorted") (hg2 : Gl X y) (hm2 : X.mg y = none) (h : PE X e (tE Φ X W c)) (st : starEach [e] X.env = (false, eval e X.env) :: starEach [] X.env)
    (na : starEach [.Call (.Name x p) [e] [] pos] X.env = (false, eval (.Call (.Name x p) [e] [] pos) X.env) :: starEach [] X.env) :
    PE X (.Call (.Name y p2) [.Call (.Name x p) [e] [] pos] [] pos2) (tE Φ X W (.sset c)) := by
  subst hx hy
  refine PE.imp (pe_sset hc hg hm hg2 hm2 h st na) fun σ H Q' ⟨F, ρ, f, Q, xe, r, x, w, k⟩ => ?_
  simp only [wpE] at w
  refine ⟨F, ρ, f, _, xe, r, x, w, fun v F1 H1 e1 ρ1 f1 g1 fin o q => ?_⟩
  obtain ⟨p1, d1⟩ := e1
  have done : ∀ (a : Addr) (ns : List Int), v = .ref a → (SqT X.K H1 a (ns.map V.int) ∨ SqL X.K H1 a (ns.map V.int)) → ns.length ≤ 60 → (∀ out : List Int, out.Pairwise (· < ·) → (∀ k, k ∈ out ↔ k ∈ ns) → Q (ownL (.list (intsD out))) ρ1) →
      ∃ (a : Addr) (ns : List Int), v = .ref a ∧ (SqT X.K H1 a (ns.map V.int) ∨ SqL X.K H1 a (ns.map V.int)) ∧ ns.length ≤ 60 ∧ ∀ (out : List Int) (p : Addr), out.Pairwise (· < ·) → (∀ k, k ∈ out ↔ k ∈ ns) → H1 p = none → Q' (.ref p) (upd H1 p (.lst (out.map V.int))) := by
    intro a ns hv hs hl q
    refine ⟨a, ns, hv, hs, hl, fun out p hpw hmem hp => ?_⟩
    obtain ⟨e, g, fin', o', q'⟩ := fin.res (res_lst (Q := fun e => Q e ρ1) hp (dvA_ints out) (q out hpw hmem))
    exact k _ F1 _ e ρ1 f1 g fin' o' q'
  cases d1 <;> first | exact q.elim | skip
  case tuple xs =>
    obtain ⟨ns, rfl, hl, q⟩ := q
    obtain ⟨a, hv, hs⟩ := o.tints
    exact done a ns hv (.inl hs) hl q
  case list xs =>
    obtain ⟨htr, ns, rfl, hl, q⟩ := q
    obtain ⟨a, xs, hv, hs, dv⟩ := Ow.listTr o htr
    have := dv.ints
    subst this
    exact done a ns hv (.inr (.of hs)) hl q
end
end MS
namespace MS
open PySem PySem.Spec PyProof.Rows L2
/-! ### enumerate over a tuple -/
theorem enum_new1 {v : Value} {o : Obj} {B0 : Heap → Prop} (B : Begins v o B0) :
    Meets (Builtin.«enumerate.__new__» ⟨[.type "enumerate", v], []⟩) (fun _ R s => B0 s.heap ∧
      R (.ok (.ret (.ref (s.heap.push o).objs.size))) { s with heap := (s.heap.push o).push { cls := .type "enumerate", data := .fields #[.none, .bool false, .ref s.heap.objs.size, rawInt 0, .none, .none] } }) :=
  .of_wp fun prog w A R s h => by
    obtain ⟨hp, gs, dd, tk, os⟩ := s
    obtain ⟨start, h⟩ := h
    have hsub := sub_enumerate
    have begin1 : ∀ {A' : Around} {E : Value → Shared → Prop} {Q : Value → Shared → Prop}, Q (.ref hp.objs.size) ⟨hp.push o, gs, dd, tk, os⟩ → wpAny (model prog w) A' (pyIter v) Q E ⟨hp, gs, dd, tk, os⟩ :=
      fun z => B.iter prog w _ _ ⟨hp, gs, dd, tk, os⟩ _ start z
    wp_walk using begin1
    refine wpAny_stack_any fun st => wpAny_pure ?_
    split
    · rename_i c _ _ _ _ _
      cases (c == Value.type "enumerate") <;> (wp_walk using begin1; exact ⟨_, rfl, h⟩)
    · wp_walk using begin1
      exact ⟨_, rfl, h⟩
section
variable {prog : Program} {w : World} {A : Around} {E : Value → Shared → Prop} {s : Shared}
theorem enum_call1 {v : Value} {o : Obj} {B0 : Heap → Prop} {Q : Value → Shared → Prop} (B : Begins v o B0) (h1 : B0 s.heap)
    (h : ∀ h', IsEnum h' (s.heap.objs.size + 1) s.heap.objs.size 0 .none → h'.get? s.heap.objs.size = some o → (∀ b ob, s.heap.get? b = some ob → h'.get? b = some ob) → Q (.ref (s.heap.objs.size + 1)) { s with heap := h' }) :
    wpAny (model prog w) A (call (.type "enumerate") [v]) Q E s := by
  refine callType_new F.called_enumerate (by decide) (F.typeCall_enumerate_1 _) (F.newCall_enumerate_1 _) (fun obj => F.args_object_init_2 obj _) F.entry_enumerate_new (enum_new1 B) ⟨h1, ?_⟩
  have size1 : (s.heap.push o).objs.size = s.heap.objs.size + 1 := Heap.size_push ..
  show _ ∧ _
  rw [size1]
  have en : IsEnum ((s.heap.push o).push { cls := .type "enumerate", data := .fields #[.none, .bool false, .ref s.heap.objs.size, rawInt 0, .none, .none] }) (s.heap.objs.size + 1) s.heap.objs.size 0 .none := by
    have new := Heap.get?_push_size (s.heap.push o) (o := { cls := .type "enumerate", data := .fields #[.none, .bool false, .ref s.heap.objs.size, rawInt 0, .none, .none] }) rfl
    rw [size1] at new; exact new
  exact ⟨⟨_, en, rfl⟩, h _ en (Heap.get?_push_of_some _ (Heap.get?_push_size _ B.free)) fun b ob x => Heap.get?_push_of_some _ (Heap.get?_push_of_some _ x)⟩
end
/-- the tuple at a, each item in a new pair with its place -/
def ItE (K : PySem.W.Frag) (a : Addr) : It :=
  ⟨fun i H => ∃ (xs : List V) (x : V), SqT K H a xs ∧ xs[i]? = some x, fun i H v H' => ∃ T x, v = .ref T ∧ H T = none ∧ H' = upd H T (.tup [.int (i : Nat), x]) ∧ ∀ xs, SqT K H a xs → xs[i]? = some x, fun i H => ∃ xs : List V, SqT K H a xs ∧ i = xs.length⟩
theorem turn_enumT {P : Program} {w : World} {K : PySem.W.Frag} {elts : List Expr} {kk : Nat} {tpos : Pos} (a e it : Addr) :
    Turn P w K (.Tuple elts kk tpos) (ItE K a) [e, it] e (fun i h => (∃ old, IsEnum h e it ((i : Nat) : Int) old) ∧ h.IsTupleIter it a i ∧ e ≠ it ∧ e ≠ a ∧ a ≠ it) where
  mem := by simp
  obj := fun i h st b hb => by
    obtain ⟨⟨old, en⟩, ⟨o, ho, hc, hd⟩, _⟩ := st
    have two : b = e ∨ b = it := by simpa using hb
    rcases two with z | z
    · rw [z]; exact ⟨_, en, fun v q => nomatch q⟩
    · rw [z]; exact ⟨o, ho, fun v q => by rw [hd] at q; cases q⟩
  keep := fun i h h' st k => let ⟨⟨old, en⟩, hi, hne⟩ := st; ⟨⟨old, k e (by simp) _ en⟩, hi.at fun o q => k it (by simp) o q, hne⟩
  item := by
    intro X hP hw hK hc i pins s σ H E I hf st hg
    subst hP hw hK
    obtain ⟨⟨old, en⟩, hit, hne, hne2, hne3⟩ := st
    obtain ⟨xs, x, hq, hx⟩ := hg
    obtain ⟨its, rv, p, hz⟩ := I.tuple hq
    obtain ⟨u, hu, ru⟩ := rv.get hx
    have size_e : e < s.heap.objs.size := Heap.lt_size en
    have size_i : it < s.heap.objs.size := by obtain ⟨_, q, _⟩ := hit; exact Heap.lt_size q
    have hlt : i < its.toArray.size := by
      have := (List.getElem?_eq_some_iff.mp hu).1
      simpa using this
    refine wpAny_pyNext_enum_itemD (Draws.tuple (A := X.A.in1) (I.ok.hd hc) it a hne3 its.toArray) en ⟨hit, p⟩ hlt hne (by simp; exact ⟨hne, hne2⟩) fun y h' tk hy ho st' hT hsz hk => ?_
    have ey : y = u := by
      have hy : its.toArray[i]? = some y := hy
      have : its[i]? = some y := by simpa using hy
      rw [hu] at this; cases this; rfl
    subst ey
    refine ⟨_, rfl, wpAny_letOwnedTupleGo_enum (s := { s with heap := h', toks := tk + 1 }) ho fun h'' en' sb => ?_⟩
    have pair : h''.get? s.heap.objs.size = some { cls := .type "tuple", data := .seq #[.int i tk, y] } := (sb.2 _ (Nat.ne_of_gt size_e)).trans hT
    have fresh : ObjOk X.prog X.w (upd H s.heap.objs.size (.tup [.int (i : Nat), x])) h'' s.heap.objs.size (.tup [.int (i : Nat), x]) :=
      ⟨by show 2 ≤ sizeLine; decide, [.int i tk, y], .cons ⟨_, rfl⟩ (.cons ru .nil), ⟨_, pair, rfl, _, rfl⟩⟩
    have J : Inv X pins σ (upd H s.heap.objs.size (.tup [.int (i : Nat), x])) { s with heap := h'', toks := tk + 1 } :=
      I.turnedNew (ch := [e, it]) (fun b ob hb q => (sb.2 b (fun z => hb (by simp [z]))).trans (hk b ob (fun z => hb (by simp [z])) (fun z => hb (by simp [z])) q)) hf (Nat.le_refl _) fresh
    refine ⟨.ref s.heap.objs.size, _, J, rfl, ⟨_, x, rfl, I.hok.fresh (Nat.le_refl _), rfl, fun ys hy => by rw [I.tuple_inj hy hq]; exact hx⟩, ⟨⟨y, ?_⟩, st'.1.at fun o q => (sb.2 it (Ne.symm hne)).trans q, hne, hne2, hne3⟩, fun b hb => ?_⟩
    · have step : ((i + 1 : Nat) : Int) = (i : Int) + 1 := by omega
      rw [step]; exact en'
    · have below : b < s.heap.objs.size := by
        have two : b = e ∨ b = it := by simpa using hb
        rcases two with z | z
        · rw [z]; exact size_e
        · rw [z]; exact size_i
      rw [upd_ne (Nat.ne_of_lt below)]
      exact (hf b hb).1
  done := by
    intro X hP hw hK hc i pins s σ H E I hf st hg
    subst hP hw hK
    obtain ⟨⟨old, en⟩, hit, hne, hne2, hne3⟩ := st
    obtain ⟨xs, hq, hx⟩ := hg
    obtain ⟨its, rv, p, hz⟩ := I.tuple hq
    obtain ⟨f0, f1, f2, f3, f4, f5⟩ := hf it (by simp)
    have hl : its.toArray.size = i := by rw [hx, rv.length]; simp
    subst hl
    exact wpAny_pyNext_enum_endD (Draws.tuple (A := X.A.in1) (I.ok.hd hc) it a hne3 its.toArray) en ⟨hit, p⟩ fun h' eb => ⟨rfl, I.turned (t' := s.toks) (fun b o hb q => eb b o hb q) f0 f1 f3 f4 f5⟩
  self := fun A i s Q E st h => let ⟨⟨_, en⟩, _⟩ := st; wpAny_pyIter_enum en h
end MS
namespace MS
open PySem PySem.Spec PyProof.Rows L2
def iEnumA (K : PySem.W.Frag) (ta : TA) : TI := fun σ H R => ta σ H fun vs H1 => ∃ a xs, vs = [.ref a] ∧ ((SqL K H1 a xs ∧ R (Ite K a) H1) ∨ (SqT K H1 a xs ∧ R (ItE K a) H1))
theorem pi_enumA {X : Cx} {e : Expr} {ta : TA} {p pos tpos : Pos} {elts : List Expr} {kk : Nat} (hg : Gl X "enumerate") (hm : X.mg "enumerate" = none) (ha : PA X [e] ta) (hs : starEach [e] X.env = [(false, eval e X.env)] := by rfl) :
    PI X (.Tuple elts kk tpos) (.Call (.Name "enumerate" p) [e] [] pos) (iEnumA X.K ta) := by
  refine ⟨fun pins s σ H R I h => ?_⟩
  refine Call_ (ld_blt I hg hm boot_enumerate (PyProof.Rows.callWith_type1 (thn (ha.run pos pins s σ H _ I h) fun us s1 ⟨vs, H1, I1, r1, q1⟩ => ?_) hs rfl))
  obtain ⟨a, xs, ex, q1⟩ := q1
  subst ex
  cases r1 with
  | cons r rr =>
    cases rr
    cases r
    rcases q1 with ⟨hq, q⟩ | ⟨hq, q⟩
    · obtain ⟨its, rv, p', hz⟩ := I1.list hq
      refine call_enumerate_list p'.isList fun h' he hit hsz hk => wpAny_pyIter_enum he ?_
      have I2 : Inv X pins σ H1 { s1 with heap := h' } := I1.kept (t' := s1.toks) hk
      refine ⟨s1.heap.objs.size + 1, [s1.heap.objs.size + 1, s1.heap.objs.size], _, _, H1, rfl, I2, turn_enum a (s1.heap.objs.size + 1) s1.heap.objs.size, ⟨⟨.none, he⟩, hit, Nat.succ_ne_self _⟩, fun b hb => ?_, q⟩
      have e' : b = s1.heap.objs.size + 1 ∨ b = s1.heap.objs.size := by simpa using hb
      have hle : s1.heap.objs.size ≤ b := by
        rcases e' with z | z
        · rw [z]; exact Nat.le_add_right _ _
        · rw [z]; exact Nat.le_refl _
      exact I1.fpOk hle (I1.hok.fresh hle)
    · obtain ⟨its, rv, p', hz⟩ := I1.tuple hq
      have ha' : a < s1.heap.objs.size := by
        obtain ⟨o, ho, _⟩ := p'
        exact Heap.lt_size ho
      refine enum_call1 (begins_tuple a its.toArray) p' fun h' he hit hk => wpAny_pyIter_enum he ?_
      have I2 : Inv X pins σ H1 { s1 with heap := h' } := I1.kept (t' := s1.toks) hk
      refine ⟨s1.heap.objs.size + 1, [s1.heap.objs.size + 1, s1.heap.objs.size], _, _, H1, rfl, I2, turn_enumT a (s1.heap.objs.size + 1) s1.heap.objs.size, ⟨⟨.none, he⟩, ⟨_, hit, rfl, rfl⟩, Nat.succ_ne_self _, Nat.ne_of_gt (Nat.lt_succ_of_lt ha'), Nat.ne_of_lt ha'⟩, fun b hb => ?_, q⟩
      have e' : b = s1.heap.objs.size + 1 ∨ b = s1.heap.objs.size := by simpa using hb
      have hle : s1.heap.objs.size ≤ b := by
        rcases e' with z | z
        · rw [z]; exact Nat.le_add_right _ _
        · rw [z]; exact Nat.le_refl _
      exact I1.fpOk hle (I1.hok.fresh hle)
theorem enum_len : ∀ (n : Nat) (ds : List D), (enumD n ds).length = ds.length
  | _, [] => rfl
  | n, d :: ds => by simp [enumD, enum_len (n + 1) ds]
theorem enum_get : ∀ {n : Nat} {ds : List D} {i : Nat} {d : D}, (enumD n ds)[i]? = some d → ∃ a, ds[i]? = some a ∧ d = .tuple [.int ((n + i : Nat) : Int), a]
  | n, [], i, d, h => by simp [enumD] at h
  | n, a :: as, 0, d, h => by
    simp [enumD] at h
    exact ⟨a, rfl, h.symm⟩
  | n, a :: as, i + 1, d, h => by
    have h' : (enumD (n + 1) as)[i]? = some d := by simpa [enumD] using h
    obtain ⟨x, h1, h3⟩ := enum_get h'
    refine ⟨x, by simpa using h1, ?_⟩
    rw [h3]
    congr 4
    omega
section
variable {K : PySem.W.Frag} {F F' : Addr → Prop} {H H' : Hp}
theorem walkD_enumL {a : Addr} {xs : List V} {as : List D} (fa : F a) (ha : H a = some (.lst xs)) (da : DvA K F H as xs) : WalkD K F H (Ite K a) (enumD 0 as) := by
  intro F' H' k i
  have ha' := k.lst a (.l xs) fa ha
  have da' := k.dvA da
  refine ⟨fun hl => ⟨xs, .of ha', ?_⟩, fun d hd => ?_⟩
  · rw [enum_len] at hl
    rw [da.length]; omega
  · obtain ⟨p, hp, rfl⟩ := enum_get hd
    obtain ⟨x, hx, dx⟩ := da'.of_get hp
    refine ⟨⟨xs, x, .of ha', hx⟩, fun z H2 hz => ?_⟩
    obtain ⟨T, x', rfl, hT, rfl, h1⟩ := hz
    have e1 := (h1 xs (.of ha')).symm.trans hx
    cases e1
    exact ⟨chg_new hT, by rw [Nat.zero_add]; exact pair_dv hT dv_int dx⟩
theorem walkD_enumT {a : Addr} {xs : List V} {as : List D} (ha : SqT K H a xs) (da : DvA K F H as xs) : WalkD K F H (ItE K a) (enumD 0 as) := by
  intro F' H' k i
  have ha' := k.tup a xs ha
  have da' := k.dvA da
  refine ⟨fun hl => ⟨xs, ha', ?_⟩, fun d hd => ?_⟩
  · rw [enum_len] at hl
    rw [da.length]; omega
  · obtain ⟨p, hp, rfl⟩ := enum_get hd
    obtain ⟨x, hx, dx⟩ := da'.of_get hp
    refine ⟨⟨xs, x, ha', hx⟩, fun z H2 hz => ?_⟩
    obtain ⟨T, x', rfl, hT, rfl, h1⟩ := hz
    have e1 := (h1 xs ha').symm.trans hx
    cases e1
    exact ⟨chg_new hT, by rw [Nat.zero_add]; exact pair_dv hT dv_int dx⟩
end
section
variable {Φ : String → Spec} {X : Cx} {W : WX}
theorem s_enum {c1 : E} {e : Expr} {y : Str} {p2 pos2 tpos : Pos} {elts : List Expr} {kk : Nat} (hy : y = Str.ofString "enumerate") (hg : Gl X y) (hm : X.mg y = none) (h1 : PE X e (tE Φ X W c1))
    (st : starEach [e] X.env = (false, eval e X.env) :: starEach [] X.env) :
    PI X (.Tuple elts kk tpos) (.Call (.Name y p2) [e] [] pos2) (tIt Φ X W (.enum c1)) := by
  subst hy
  refine PI.imp (pi_enumA hg hm (pa_cons h1 pa_nil st) st) fun σ H R ⟨F, ρ, f, Q, xe, r, x, w, k⟩ => ?_
  simp only [wpI] at w
  refine ⟨F, ρ, f, _, xe, r, x, w, fun v F1 H1 e1 ρ1 f1 g1 fin o q => ?_⟩
  obtain ⟨ds, hd, q2⟩ := onO_some q
  rcases seqOf_some hd with rfl | rfl
  · obtain ⟨fn, od⟩ := fin_sh fin o
    simp only [Dv] at od
    obtain ⟨a, xs, rfl, hf, k1, k2⟩ := od
    exact ⟨a, xs, rfl, .inl ⟨.of k1, k _ F1 H1 _ ρ1 f1 fn (walkD_enumL hf k1 k2) q2⟩⟩
  · obtain ⟨fn, od⟩ := fin_sh fin o
    simp only [Dv] at od
    obtain ⟨a, xs, rfl, k1, k2⟩ := od
    exact ⟨a, xs, rfl, .inr ⟨k1, k _ F1 H1 _ ρ1 f1 fn (walkD_enumT k1 k2) q2⟩⟩
end
end MS
namespace MS
open PySem PySem.Spec PyProof.Rows L2
/-- no exception leaves a comprehension -/
abbrev W0 : WX := fun _ _ _ _ => False
section
variable {K : PySem.W.Frag} {F F' F1 F2 : Addr → Prop} {H H' H1 H2 : Hp}
/-- a state reached from another one: the names apart -/
structure Reach (K : PySem.W.Frag) (F : Addr → Prop) (H : Hp) (f : List Addr) (F' : Addr → Prop) (H' : Hp) (f' : List Addr) : Prop where
  chg : Chg F H F' H' f
  sub : ∀ a ∈ f', a ∈ f ∨ H a = none
theorem Reach.refl {f : List Addr} : Reach K F H f F H f := ⟨.refl, fun _ h => .inl h⟩
theorem Reach.none {f f' : List Addr} (a : Reach K F H f F' H' f') {x : Addr} (h : H' x = none) : H x = none := by
  cases e : H x with
  | none => rfl
  | some o => exact absurd h (a.chg.dom x (by rw [e]; simp))
theorem Reach.trans {f f1 f2 : List Addr} (a : Reach K F H f F1 H1 f1) (b : Reach K F1 H1 f1 F2 H2 f2) : Reach K F H f F2 H2 f2 :=
  ⟨a.chg.trans b.chg a.sub, fun x hx => by
    rcases b.sub x hx with z | z
    · exact a.sub x z
    · exact .inr (a.none z)⟩
theorem FinG.reach {σ : L2.St} {f f' g : List Addr} {ρ' : Rho} (a : FinG K F H σ f F' H' ρ' f' g) : Reach K F H f F' H' f' := ⟨a.chg, a.sub'⟩
theorem Reach.fin {σ : L2.St} {f f' : List Addr} {ρ' : Rho} (a : Reach K F H f F' H' f') (r : Rep K F' H' σ ρ' f') : FinG K F H σ f F' H' ρ' f' [] :=
  ⟨r, by simpa using r.nd, by simp, fun x hx => a.sub x (by simpa using hx), by simp, a.chg⟩
theorem Reach.cut {f f1 f2 : List Addr} (a : Reach K F H f F1 H1 f1) (h : ∀ x ∈ f2, x ∈ f1) : Reach K F H f F1 H1 f2 := ⟨a.chg, fun x hx => a.sub x (h x hx)⟩
theorem Reach.new {f f1 : List Addr} (a : Reach K F H f F1 H1 f1) (c : Chg F1 H1 F2 H2 []) : Reach K F H f F2 H2 f1 := ⟨a.chg.trans c (by simp), a.sub⟩
end
section
variable {Φ : String → Spec} {X : Cx} {W : WX}
theorem PE.impL {e : Expr} {t t' : TE} (h : PE X e t) (i : ∀ σ H Q, σ.length = X.N.length → t' σ H Q → t σ H Q) : PE X e t' := ⟨fun pins s σ H Q I q => h.run pins s σ H Q I (i _ _ _ I.len q)⟩
/-- a comprehension's turn -/
def bodyT (Φ : String → Spec) (t : Tg) (c e : E) (d : D) (r : Rho) (Kk : Option Ety → Rho → Prop) : Prop :=
  onO (t.bind d (clear t.slots r)) fun r1 => wpE Φ c r1 (fun v r2 => isBool v fun g => if g = true then wpE Φ e r2 (fun y r3 => y.p = .sh ∧ Kk (some y) r3) (fun _ _ => False) else Kk none r2) (fun _ _ => False)
/-- behind i items -/
structure LcInv (K : PySem.W.Frag) (Φ : String → Spec) (t : Tg) (c e : E) (σ : L2.St) (ds : List D) (F1 : Addr → Prop) (H1 : Hp) (f1 : List Addr) (Da : Addr) (Qc : List D → Rho → Prop) (i : Nat) (F : Addr → Prop) (H : Hp) (ρ : Rho) (f : List Addr) (σx : L2.St) (acc : List D) (av : List V) : Prop where
  wp : wipe σx t.slots = wipe σ t.slots
  rep : Rep K F H σx ρ f
  at_ : H Da = some (.lst av)
  dv : DvA K F H acc.reverse av
  len : av.length ≤ i
  nf : Da ∉ f
  nF : ¬ F Da
  re : Reach K F1 H1 f1 F H f
  keep : Keep K F1 H1 F H
  go : wpComp (bodyT Φ t c e) (ds.drop i) acc ρ Qc
theorem i_comp {t : Tg} {it : I} {c e : E} {tt : TT} (hsl : (ownT X.N t.slots).map (·.2) = t.slots) (htt : ∀ σ H Q', tTst Φ X W0 c σ H Q' → tt σ H Q') {σ : L2.St} {H0 : Hp} {Q' : VK} (hlen : σ.length = X.N.length) :
    tE Φ X W (.comp t it c e) σ H0 Q' → tLc (tIt Φ X W it) (gTg X.K t) tt (tE Φ X W0 e) ((ownT X.N t.slots).map (·.2)) σ H0 Q' := fun ⟨F0, ρ0, f0, Q, xe, r, xo, w, k⟩ => by
  simp only [wpE] at w
  rw [hsl]
  refine ⟨F0, ρ0, f0, _, xe, r, xo, w, fun J F1 H1 ds ρ1 f1 fin1 wd q1 => ?_⟩
  obtain ⟨hz, q1⟩ := q1
  intro Da hDa
  have hslots : ∀ i ∈ t.slots, i < ρ1.length := fun i hi => by
    have h1 := fin1.rep.sl.length
    have hm : i ∈ (ownT X.N t.slots).map (·.2) := by rw [hsl]; exact hi
    obtain ⟨p, hp, rfl⟩ := List.mem_map.mp hm
    obtain ⟨j, hj, e⟩ := List.mem_filterMap.mp hp
    cases hn : X.N[j]? with
    | none => rw [hn] at e; cases e
    | some x =>
      rw [hn] at e
      have e : (x, j) = p := Option.some.inj e
      subst e
      have := (List.getElem?_eq_some_iff.mp hn).1
      show j < _
      omega
  refine ⟨fun i m H => m = ds.length - i ∧ i ≤ ds.length ∧ ∃ F ρ f σx acc av, LcInv X.K Φ t c e σ ds F1 H1 f1 Da (fun acc ρ2 => Q (ownL (.list acc)) (clear t.slots ρ2)) i F H ρ f σx acc av, ⟨ds.length, by simp, Nat.zero_le _, ?_⟩, ?_⟩
  · have cn : Chg F1 H1 F1 (upd H1 Da (.lst [])) [] := chg_new hDa
    refine ⟨F1, ρ1, f1, σ, [], [], rfl, fin1.rep.new cn fun a ha => cn.dom a (fin1.rep.there a ha), upd_same, by simp [DvA_nil], Nat.le_refl _, fun z => fin1.rep.ne z hDa, fun z => fin1.rep.there _ z hDa, Reach.refl.new cn, cn.keepD (by simp) (by simp), q1⟩
  · rintro i m H ⟨rfl, hil, F, ρ, f, σx, acc, av, L⟩
    have kd := wd F H L.keep i
    by_cases hlt : i < ds.length
    · refine .inr ?_
      have hdi : ds[i]? = some ds[i] := List.getElem?_eq_getElem hlt
      obtain ⟨hgo, hy⟩ := kd.2 _ hdi
      refine ⟨hgo, fun H' => ∃ F ρ f σx acc av, LcInv X.K Φ t c e σ ds F1 H1 f1 Da (fun acc ρ2 => Q (ownL (.list acc)) (clear t.slots ρ2)) (i + 1) F H' ρ f σx acc av, fun H' ⟨F', ρ', f', σ', acc', av', L'⟩ => ⟨ds.length - (i + 1), by omega, rfl, by omega, F', ρ', f', σ', acc', av', L'⟩, fun x H' hyl => ?_⟩
      obtain ⟨cy, dx⟩ := hy x H' hyl
      -- the turn
      have g0 := L.go
      rw [List.drop_eq_getElem_cons hlt] at g0
      unfold wpComp bodyT at g0
      obtain ⟨ρb, hb, gb⟩ := onO_some g0
      have rep' : Rep X.K F H' σx ρ f := L.rep.new cy fun a ha => cy.dom a (L.rep.there a ha)
      obtain ⟨fc, hfc, rc⟩ := rep'.clr t.slots
      have rc' : Rep X.K F H' (wipe σ t.slots) (clear t.slots ρ) fc := rc.re (by rw [L.wp, wipe_wipe])
      have lenρ : ρ.length = ρ1.length := by
        have h1 := L.rep.sl.length
        have h2 := fin1.rep.sl.length
        have h3 := congrArg List.length L.wp
        rw [wipe_length, wipe_length] at h3
        omega
      refine bind_ok rc' dx hb (fun j hj => by rw [clear_length, lenρ]; exact hslots j hj) fun σ2 f2 hf2 r2 w2 _ => ?_
      have hw2 : wipe σ2 t.slots = wipe σ t.slots := by rw [w2 _ fun _ h => h, wipe_wipe]
      refine ⟨hw2, htt σ2 H' _ ?_⟩
      refine ⟨F, ρb, f2, _, _, r2, xok_false, gb, fun b F3 H3 ρ3 f3 fin3 q3 => ?_⟩
      -- what stands at Da
      have hDa' : H' Da = some (.lst av) := cy.keep _ _ L.at_ (by simp)
      have nf2 : Da ∉ f2 := fun z => L.nf (hfc _ (hf2 _ z))
      have hDa3 : H3 Da = some (.lst av) := fin3.chg.keep _ _ hDa' nf2
      have reach2 : Reach X.K F1 H1 f1 F H' f2 := (L.re.new cy).cut fun a ha => hfc a (hf2 a ha)
      have reach3 : Reach X.K F1 H1 f1 F3 H3 f3 := reach2.trans fin3.reach
      have keepY : Keep X.K F1 H1 F H' := L.keep.trans (cy.keepD (by simp) (by simp))
      have keep3 : Keep X.K F1 H1 F3 H3 := keepY.trans (fin3.chg.keepD r2.off r2.lst)
      have dvY : DvA X.K F H' acc.reverse av := DvA.chg cy (by simp) (by simp) _ _ L.dv
      have dv3 : DvA X.K F3 H3 acc.reverse av := DvA.chg fin3.chg r2.off r2.lst _ _ dvY
      have nDa3 : Da ∉ f3 := fun z => by
        rcases fin3.sub' _ z with y | y
        · exact nf2 y
        · rw [hDa'] at y; cases y
      have nF3 : ¬ F3 Da := fun z => by
        rcases fin3.chg.new _ z with y | y | y
        · exact L.nF y
        · exact nf2 y
        · rw [hDa'] at y; cases y
      cases b with
      | false => exact ⟨F3, ρ3, f3, σ2, acc, av, hw2, fin3.rep, hDa3, dv3, Nat.le_trans L.len (Nat.le_succ _), nDa3, nF3, reach3, keep3, q3⟩
      | true =>
        refine ⟨F3, ρ3, f3, _, _, fin3.rep, xok_false, q3, fun y F4 H4 e4 ρ4 f4 g4 fin4 o4 q4 => ?_⟩
        obtain ⟨hsh, q4⟩ := q4
        rw [hsh] at o4
        obtain ⟨fin4, o4⟩ := fin_sh fin4 o4
        have hDa4 : H4 Da = some (.lst av) := fin4.chg.keep _ _ hDa3 nDa3
        have nDa4 : Da ∉ f4 := fun z => by
          rcases fin4.sub' _ z with y | y
          · exact nDa3 y
          · rw [hDa3] at y; cases y
        have nF4 : ¬ F4 Da := fun z => by
          rcases fin4.chg.new _ z with y | y | y
          · exact nF3 y
          · exact nDa3 y
          · rw [hDa3] at y; cases y
        have cu : Chg F4 H4 F4 (upd H4 Da (.lst (av ++ [y]))) [Da] := ⟨fun _ h => h, fun _ h => .inl h, fun b o q hb => by rw [upd_ne (by simpa using hb)]; exact q, fun b q => by
          by_cases z : b = Da
          · subst z; rw [upd_same]; simp
          · rw [upd_ne z]; exact q⟩
        have offD : ∀ a ∈ [Da], ¬ F4 a := fun a ha => by
          have : a = Da := by simpa using ha
          rw [this]; exact nF4
        have lstD : ∀ a ∈ [Da], Mu H4 a := fun a ha => by
          have : a = Da := by simpa using ha
          rw [this]; exact .of hDa4
        refine ⟨av, hDa4, Nat.lt_of_lt_of_le (Nat.lt_of_le_of_lt L.len hlt) hz, F4, ρ4, f4, σ2, e4.d :: acc, av ++ [y], hw2, ?_, upd_same, ?_, ?_, nDa4, nF4, ?_, ?_, q4⟩
        · exact ⟨fin4.rep.sl.chg cu offD lstD fun a ha z => nDa4 ((show a = Da by simpa using z) ▸ ha), fin4.rep.nd, fin4.rep.off, fun a ha => cu.dom a (fin4.rep.there a ha)⟩
        · rw [List.reverse_cons]
          have d4 : DvA X.K F4 H4 acc.reverse av := DvA.chg fin4.chg fin3.rep.off fin3.rep.lst _ _ dv3
          exact DvA.chg cu offD lstD _ _ (dvA_append d4 (DvA_cons.mpr ⟨y, [], rfl, o4, DvA_nil.mpr rfl⟩))
        · rw [List.length_append, List.length_singleton]
          have := L.len
          omega
        · have r4 := reach3.trans fin4.reach
          refine ⟨r4.chg.trans cu fun b hb => ?_, r4.sub⟩
          have : b = Da := by simpa using hb
          subst this
          exact .inr hDa
        · exact (keep3.trans (fin4.chg.keepD fin3.rep.off fin3.rep.lst)).trans (cu.keepD offD lstD)
    · refine .inl ⟨kd.1 (by omega), ?_⟩
      have g0 := L.go
      rw [List.drop_eq_nil_of_le (by omega)] at g0
      have g0 : Q (ownL (.list acc.reverse)) (clear t.slots ρ) := g0
      obtain ⟨fc, hfc, rc⟩ := L.rep.clr t.slots
      have rc' : Rep X.K F H σ (clear t.slots ρ) fc := rc.re L.wp
      have re := (fin1.reach.trans L.re).cut hfc
      refine k (.ref Da) F H (ownL (.list acc.reverse)) _ fc [Da] ⟨rc', ?_, fun a ha => ?_, fun a ha => ?_, fun a ha => ?_, re.chg⟩ (Ow_list.mpr ⟨Da, av, [], rfl, L.at_, rfl, OwA_sh.mpr ⟨rfl, L.dv⟩, by simp⟩) g0
      · exact List.nodup_append.mpr ⟨by simp, rc'.nd, fun a ha b hb e => by
          have : a = Da := by simpa using ha
          subst this; subst e
          exact L.nf (hfc _ hb)⟩
      · have : a = Da := by simpa using ha
        rw [this]; exact L.nF
      · rcases List.mem_append.mp ha with z | z
        · have : a = Da := by simpa using z
          rw [this]; exact .inr (fin1.reach.none hDa)
        · exact re.sub a z
      · have : a = Da := by simpa using ha
        rw [this]; exact .of L.at_
theorem s_comp {t : Tg} {it : I} {c e : E} {elt tg iter : Expr} {ifs : List Expr} {scope : Scope} {pos : Pos} {tt : TT} (hc : X.calm = true) (hN : X.N.Nodup) (hi : PI X tg iter (tIt Φ X W it)) (ok : BlkOk X.N X.env.scope scope (ownT X.N t.slots)) (hsl : (ownT X.N t.slots).map (·.2) = t.slots)
    (hg : ∀ (s : Shared) (H : Hp) (C : Addr) (cl : List (Str × Addr)) (fp : List Addr), PG (X.blk s H scope (compEnvC scope cl C X.env) fp) tg (gTg X.K t))
    (ht : ∀ (s : Shared) (H : Hp) (C : Addr) (cl : List (Str × Addr)) (fp : List Addr), PTs (X.blk s H scope (compEnvC scope cl C X.env) fp) ifs tt)
    (htt : ∀ σ H Q', tTst Φ X W0 c σ H Q' → tt σ H Q')
    (he : ∀ (s : Shared) (H : Hp) (C : Addr) (cl : List (Str × Addr)) (fp : List Addr), PE (X.blk s H scope (compEnvC scope cl C X.env) fp) elt (tE Φ X W0 e)) (hs : ∀ x, foldedSetIterable iter X.env x = pure x) :
    PE X (.ListComp elt [⟨tg, iter, ifs, 0⟩] scope pos) (tE Φ X W (.comp t it c e)) :=
  PE.impL (pe_lc (own := ownT X.N t.slots) hc hN hi ok hg ht he hs) fun σ H0 Q' hlen z => i_comp hsl htt hlen z
end
end MS
namespace MS
open PySem PySem.Spec PyProof.Rows L2
section
variable {K : PySem.W.Frag} {F F' F1 : Addr → Prop} {H H' H1 : Hp} {σ : L2.St}
theorem chg_upd {a : Addr} {o : HO} (h : H a ≠ none) : Chg F H F (upd H a o) [a] := ⟨fun _ h => h, fun _ h => .inl h, fun b u q hb => by rw [upd_ne (by simpa using hb)]; exact q, fun b q => by
  by_cases z : b = a
  · subst z; rw [upd_same]; simp
  · rw [upd_ne z]; exact q⟩
/-- an owned list of a name is changed in place -/
theorem Rep.own {ρ : Rho} {f : List Addr} {i : Nat} {p : Perm} {ds : List D} (r : Rep K F H σ ρ f) (h : ρ.at i = some ⟨.own p, .list ds⟩) :
    ∃ a av g, σ[i]? = some (some (.ref a)) ∧ H a = some (.lst av) ∧ OwA K F H ds p av g ∧ a ∉ g ∧ g.Nodup ∧ (∀ x ∈ a :: g, x ∈ f) ∧
      ∀ (ds' : List D) (av' : List V) (g' gt : List Addr), OwA K F H ds' p av' g' → g'.Nodup → (∀ x ∈ g', x ∈ g ∨ x ∈ gt) → (∀ x ∈ gt, x ∉ f ∧ ¬ F x ∧ H x ≠ none) →
        ∃ f', (∀ x ∈ f', x ∈ f ∨ x ∈ gt) ∧ Chg F H F (upd H a (.lst av')) f ∧ Rep K F (upd H a (.lst av')) σ (ρ.set i (some ⟨.own p, .list ds'⟩)) f' := by
  obtain ⟨o, ga, f0, h1, pp, ⟨v, rfl, s⟩, r0⟩ := r.out (at_some h)
  obtain ⟨a, av, g, rfl, h2, rfl, h3, hp⟩ := Ow_list.mp s
  have nd := pp.nodup_iff.mp r.nd
  obtain ⟨n1, n2, n3⟩ := List.nodup_append.mp nd
  obtain ⟨na, ng⟩ := List.nodup_cons.mp n1
  have mem : ∀ x ∈ a :: g, x ∈ f := fun x hx => pp.mem_iff.mpr (List.mem_append_left _ hx)
  have hi : i < ρ.length := (List.getElem?_eq_some_iff.mp (at_some h)).1
  refine ⟨a, av, g, h1, h2, h3, na, ng, mem, fun ds' av' g' gt k1 k2 k3 k4 => ?_⟩
  have ha : a ∈ f := mem a (by simp)
  have c : Chg F H F (upd H a (.lst av')) [a] := chg_upd (by rw [h2]; simp)
  have offa : ∀ x ∈ [a], ¬ F x := fun x hx => by
    have : x = a := by simpa using hx
    rw [this]; exact r.off a ha
  have lsta : ∀ x ∈ [a], Mu H x := fun x hx => by
    have : x = a := by simpa using hx
    rw [this]; exact .of h2
  have na' : a ∉ g' := fun z => by
    rcases k3 a z with y | y
    · exact na y
    · exact (k4 a y).1 ha
  have nf0 : a ∉ f0 := fun z => n3 a (by simp) a z rfl
  have r1 : Rep K F (upd H a (.lst av')) σ (ρ.set i none) f0 := ⟨r0.sl.chg c offa lsta fun x hx z => nf0 ((show x = a by simpa using z) ▸ hx), r0.nd, r0.off, fun x hx => c.dom x (r0.there x hx)⟩
  have ow : Ow K F (upd H a (.lst av')) (.list ds') (.own p) (.ref a) (a :: g') := Ow_list.mpr ⟨a, av', g', rfl, upd_same, rfl, OwA.chg c offa lsta _ _ _ _ (fun x hx z => na' ((show x = a by simpa using z) ▸ hx)) k1, hp⟩
  have ndn : ((a :: g') ++ f0).Nodup := by
    refine List.nodup_append.mpr ⟨List.nodup_cons.mpr ⟨na', k2⟩, r0.nd, fun x hx y hy e => ?_⟩
    subst e
    rcases List.mem_cons.mp hx with z | z
    · exact nf0 (z ▸ hy)
    · rcases k3 x z with q | q
      · exact n3 x (by simp [q]) x hy rfl
      · exact (k4 x q).1 (pp.mem_iff.mpr (List.mem_append_right _ hy))
  obtain ⟨f', p', r2⟩ := r1.inn (i := i) (o := some (.ref a)) (e := some ⟨.own p, .list ds'⟩) (g := a :: g') (by simp [hi]) ⟨_, rfl, ow⟩ ndn fun x hx => by
    rcases List.mem_cons.mp hx with z | z
    · rw [z]; exact r.off a ha
    · rcases k3 x z with q | q
      · exact r.off x (mem x (by simp [q]))
      · exact (k4 x q).2.1
  rw [set_idem, set_self h1] at r2
  refine ⟨f', fun x hx => ?_, c.weak fun x hx => (show x = a by simpa using hx) ▸ ha, r2⟩
  rcases List.mem_append.mp (p'.mem_iff.mp hx) with z | z
  · rcases List.mem_cons.mp z with z | z
    · exact .inl (z ▸ ha)
    · rcases k3 x z with q | q
      · exact .inl (mem x (by simp [q]))
      · exact .inr q
  · exact .inl (pp.mem_iff.mpr (List.mem_append_right _ z))
theorem OwA.append : ∀ {ds es : List D} {p : Perm} {xs ys : List V} {g g' : List Addr}, OwA K F H ds p xs g → OwA K F H es p ys g' → OwA K F H (ds ++ es) p (xs ++ ys) (g ++ g')
  | [], es, p, xs, ys, g, g', h, h' => by
    obtain ⟨rfl, rfl⟩ := OwA_nil.mp h
    exact h'
  | d :: ds, es, p, xs, ys, g, g', h, h' => by
    obtain ⟨x, xr, f1, f2, rfl, rfl, h1, h2⟩ := OwA_cons.mp h
    exact OwA_cons.mpr ⟨x, xr ++ ys, f1, f2 ++ g', rfl, by simp, h1, OwA.append h2 h'⟩
theorem OwA.one {d : D} {p : Perm} {x : V} {g : List Addr} (h : Ow K F H d p x g) : OwA K F H [d] p [x] g := OwA_cons.mpr ⟨x, [], g, [], rfl, by simp, h, OwA_nil.mpr ⟨rfl, rfl⟩⟩
/-- an item in its place -/
theorem OwA.set : ∀ {ds : List D} {p : Perm} {xs : List V} {g : List Addr} {n : Nat} {d : D} {x : V} {gt : List Addr}, OwA K F H ds p xs g → Ow K F H d p x gt → g.Nodup → gt.Nodup → (∀ a ∈ gt, a ∉ g) →
    ∃ g', OwA K F H (ds.set n d) p (xs.set n x) g' ∧ g'.Nodup ∧ ∀ a ∈ g', a ∈ g ∨ a ∈ gt
  | [], p, xs, g, n, d, x, gt, h, h', n1, n2, n3 => by
    obtain ⟨rfl, rfl⟩ := OwA_nil.mp h
    exact ⟨[], by simpa using OwA_nil.mpr ⟨rfl, rfl⟩, by simp, by simp⟩
  | d0 :: ds, p, xs, g, 0, d, x, gt, h, h', n1, n2, n3 => by
    obtain ⟨x0, xr, f1, f2, rfl, rfl, h1, h2⟩ := OwA_cons.mp h
    refine ⟨gt ++ f2, OwA_cons.mpr ⟨x, xr, gt, f2, rfl, rfl, h', h2⟩, List.nodup_append.mpr ⟨n2, (List.nodup_append.mp n1).2.1, fun a ha b hb e => n3 a ha (by subst e; simp [hb])⟩, fun a ha => ?_⟩
    rcases List.mem_append.mp ha with z | z
    · exact .inr z
    · exact .inl (by simp [z])
  | d0 :: ds, p, xs, g, n + 1, d, x, gt, h, h', n1, n2, n3 => by
    obtain ⟨x0, xr, f1, f2, rfl, rfl, h1, h2⟩ := OwA_cons.mp h
    obtain ⟨m1, m2, m3⟩ := List.nodup_append.mp n1
    obtain ⟨g', k1, k2, k3⟩ := OwA.set (n := n) h2 h' m2 n2 fun a ha z => n3 a ha (by simp [z])
    refine ⟨f1 ++ g', OwA_cons.mpr ⟨x0, xr.set n x, f1, g', rfl, rfl, h1, k1⟩, List.nodup_append.mpr ⟨m1, k2, fun a ha b hb e => ?_⟩, fun a ha => ?_⟩
    · subst e
      rcases k3 a hb with z | z
      · exact m3 a ha a z rfl
      · exact n3 a z (by simp [ha])
    · rcases List.mem_append.mp ha with z | z
      · exact .inl (by simp [z])
      · rcases k3 a z with y | y
        · exact .inl (by simp [y])
        · exact .inr y
theorem OwA.reverse : ∀ {ds : List D} {p : Perm} {xs : List V} {g : List Addr}, OwA K F H ds p xs g → ∃ g', OwA K F H ds.reverse p xs.reverse g' ∧ g'.Perm g
  | [], p, xs, g, h => by
    obtain ⟨rfl, rfl⟩ := OwA_nil.mp h
    exact ⟨[], OwA_nil.mpr ⟨rfl, rfl⟩, .refl _⟩
  | d :: ds, p, xs, g, h => by
    obtain ⟨x0, xr, f1, f2, rfl, rfl, h1, h2⟩ := OwA_cons.mp h
    obtain ⟨g', k1, k2⟩ := OwA.reverse h2
    refine ⟨g' ++ f1, ?_, (List.perm_append_comm).trans (List.Perm.append_left _ k2)⟩
    rw [List.reverse_cons, List.reverse_cons]
    exact OwA.append k1 (OwA.one h1)
/-- what may be put in -/
theorem fits_ow {p : Perm} {e : Ety} {v : V} {g : List Addr} (h : fits p e) (o : Ow K F H e.d e.p v g) : ∃ g', Ow K F H e.d p v g' ∧ (∀ a ∈ g', a ∈ g) ∧ (g.Nodup → g'.Nodup) := by
  rcases h with h | ⟨h1, h2⟩
  · rw [h] at o
    exact ⟨g, o, fun _ z => z, fun z => z⟩
  · refine ⟨[], ?_, by simp, by simp⟩
    have := o.scal h2
    cases p with
    | sh => exact Ow_sh.mpr ⟨rfl, this⟩
    | own p => exact (Ow_own_scal h2).mpr ⟨rfl, this⟩
    | raw => exact Ow_raw.mpr ⟨rfl, by obtain ⟨_, d⟩ := e; cases d <;> first | (simp [isScal] at h2; done) | exact ⟨h2, this⟩⟩
end
section
variable {Φ : String → Spec} {X : Cx} {W : WX}
theorem tyL {K : PySem.W.Frag} {H : Hp} {a : Addr} {xs : List V} (h : H a = some (.lst xs)) : tyV K "list" (.ref a) H := Or.inl ⟨rfl, _, Or.inl (Or.inl h)⟩
theorem s_pop {i : Nat} {x m : Str} {p ap cp : Pos} (h : nameB X.env.scope X.N i x = true) (hm : m = Str.ofString "pop") (hl : (ap.endLine == cp.line) = true) : PE X (.Call (.Attribute (.Name x p) m ap) [] [] cp) (tE Φ X W (.pop i)) := by
  subst hm
  refine PE.imp (pe_bm0 PySem.F.plainAttrs_list PySem.F.slot_list_pop PySem.F.type_list_pop mt_pop (pe_nm h) (hline := hl)) fun σ H Q' ⟨F, ρ, f, Q, xe, r, xo, w, k⟩ => ?_
  simp only [wpE] at w
  obtain ⟨e, he, q⟩ := onO_some w
  split at q
  · rename_i xs
    obtain ⟨y, hy, q⟩ := q
    obtain ⟨a, av, g, h1, h2, h3, _, _, hmem, upd'⟩ := r.own he
    have h3 := (OwA_sh.mp h3).2
    obtain ⟨z, hz, hd⟩ := DvA.of_get h3 hy
    refine ⟨_, h1, tyL h2, a, av, z, rfl, rfl, h2, by rw [h3.length]; exact hz, ?_⟩
    obtain ⟨f', s1, c, r'⟩ := upd' xs.dropLast av.dropLast [] [] (OwA_sh.mpr ⟨rfl, h3.dropLast⟩) (by simp) (by simp) (by simp)
    refine k z F _ (sh y) _ f' [] ⟨r', by simpa using r'.nd, by simp, fun b hb => ?_, by simp, c⟩ (Ow_sh.mpr ⟨rfl, Dv.chg c r.off r.lst _ _ hd⟩) q
    rcases s1 b (by simpa using hb) with z | z
    · exact .inl z
    · simp at z
  · exact q.elim
theorem ownB_at {ρ : Rho} {i : Nat} (h : ownB ρ i = true) : ∃ p xs, ρ.at i = some ⟨.own p, .list xs⟩ := by
  unfold ownB at h
  split at h
  · exact ⟨_, _, by assumption⟩
  · cases h
theorem s_popAt {i : Nat} {x m : Str} {p ap cp : Pos} {e : Expr} {c : E} (h : nameB X.env.scope X.N i x = true) (hm : m = Str.ofString "pop") (hl : (ap.endLine == cp.line) = true) (h1 : PE X e (tE Φ X W c)) (hs : starEach [e] X.env = [(false, eval e X.env)]) :
    PE X (.Call (.Attribute (.Name x p) m ap) [e] [] cp) (tE Φ X W (.popAt i c)) := by
  subst hm
  refine PE.imp (pe_bm PySem.F.plainAttrs_list PySem.F.slot_list_pop PySem.F.type_list_pop mt_popAt (pe_nm h) (pa_cons h1 pa_nil hs) (hline := hl) (hs := hs) (hfew := by rw [hs]; rfl)) fun σ H Q' ⟨F, ρ, f, Q, xe, r, xo, w, k⟩ => ?_
  simp only [wpE] at w
  obtain ⟨hb, w⟩ := w
  obtain ⟨p0, xs0, hb⟩ := ownB_at hb
  obtain ⟨a0, av0, g0, k1, k2, _⟩ := r.own hb
  refine ⟨_, k1, tyL k2, F, ρ, f, _, xe, r, xo, w, fun v F1 H1 e1 ρ1 f1 g1 fin o q => ?_⟩
  obtain ⟨e, he, q⟩ := onO_some q
  split at q
  · rename_i p9 j xs hh8
    obtain ⟨hj, y, hy, hj2, q⟩ := q
    obtain ⟨a, av, g, h1, h2, h3, _, _, hmem, upd'⟩ := fin.rep.own he
    have ea : a0 = a := by have := k1.symm.trans h1; simpa using this
    subst ea
    have h3 := (OwA_sh.mp h3).2
    obtain ⟨z, hz, hd⟩ := DvA.of_get h3 hy
    have hlt := (List.getElem?_eq_some_iff.mp hz).1
    refine ⟨a0, av, j, j.toNat, z, rfl, by rw [o.int], h2, by omega, by omega, ?_, hz, ?_⟩
    · unfold seqIndex?
      have e1 : ¬ j < 0 := by omega
      have e2 : j < (av.length : Int) := by omega
      simp [e1, hj, e2]
    · obtain ⟨f', s1, c, r'⟩ := upd' (xs.eraseIdx j.toNat) (av.eraseIdx j.toNat) [] [] (OwA_sh.mpr ⟨rfl, h3.eraseIdx _⟩) (by simp) (by simp) (by simp)
      refine k z F1 _ (sh y) _ f' [] (fin.trans' ⟨r', by simpa using r'.nd, by simp, fun b hb => ?_, by simp, c⟩) (Ow_sh.mpr ⟨rfl, Dv.chg c fin.rep.off fin.rep.lst _ _ hd⟩) q
      rcases s1 b (by simpa using hb) with z | z
      · exact .inl z
      · simp at z
  · exact q.elim
end
end MS
namespace MS
open PySem PySem.Spec PyProof.Rows L2
/-! ### lists of a name's own list of lists -/
section
variable {K : PySem.W.Frag} {F : Addr → Prop} {H : Hp} {σ : L2.St}
theorem OwA.nest : ∀ {xs : List D} {n : Nat} {ys : List D} {av : List V} {g : List Addr}, OwA K F H xs (.own .sh) av g → g.Nodup → (∀ a ∈ g, ¬ F a) → xs[n]? = some (.list ys) →
    ∃ b bv, av[n]? = some (.ref b) ∧ b ∈ g ∧ H b = some (.lst bv) ∧ DvA K F H ys bv ∧ ∀ (ys' : List D) (bv' : List V), DvA K F H ys' bv' → OwA K F (upd H b (.lst bv')) (xs.set n (.list ys')) (.own .sh) av g
  | [], n, ys, av, g, h, nd, off, hx => by simp at hx
  | d :: xs, 0, ys, av, g, h, nd, off, hx => by
    obtain ⟨x, xr, f1, f2, rfl, rfl, h1, h2⟩ := OwA_cons.mp h
    have hx : d = .list ys := by simpa using hx
    subst hx
    obtain ⟨b, bv, g', rfl, hb, rfl, h3, _⟩ := Ow_list.mp h1
    obtain ⟨rfl, h3b⟩ := OwA_sh.mp h3
    refine ⟨b, bv, rfl, by simp, hb, h3b, fun ys' bv' hd => ?_⟩
    have c : Chg F H F (upd H b (.lst bv')) [b] := chg_upd (by rw [hb]; simp)
    have offb : ∀ x ∈ [b], ¬ F x := fun x hx => (show x = b by simpa using hx) ▸ off b (by simp)
    have lstb : ∀ x ∈ [b], Mu H x := fun x hx => (show x = b by simpa using hx) ▸ .of hb
    refine OwA_cons.mpr ⟨.ref b, xr, [b], f2, rfl, rfl, Ow_list.mpr ⟨b, bv', [], rfl, upd_same, rfl, OwA_sh.mpr ⟨rfl, DvA.chg c offb lstb _ _ hd⟩, by simp⟩, OwA.chg c offb lstb _ _ _ _ (fun x hx z => ?_) h2⟩
    have e : x = b := by simpa using z
    subst e
    exact (List.nodup_append.mp nd).2.2 x (by simp) x hx rfl
  | d :: xs, n + 1, ys, av, g, h, nd, off, hx => by
    obtain ⟨x, xr, f1, f2, rfl, rfl, h1, h2⟩ := OwA_cons.mp h
    obtain ⟨n1, n2, n3⟩ := List.nodup_append.mp nd
    obtain ⟨b, bv, k1, k2, k3, k4, k5⟩ := OwA.nest h2 n2 (fun a ha => off a (by simp [ha])) (by simpa using hx)
    refine ⟨b, bv, by simpa using k1, by simp [k2], k3, k4, fun ys' bv' hd => ?_⟩
    have c : Chg F H F (upd H b (.lst bv')) [b] := chg_upd (by rw [k3]; simp)
    have offb : ∀ x ∈ [b], ¬ F x := fun x hx => (show x = b by simpa using hx) ▸ off b (by simp [k2])
    have lstb : ∀ x ∈ [b], Mu H x := fun x hx => (show x = b by simpa using hx) ▸ .of k3
    refine OwA_cons.mpr ⟨x, xr, f1, f2, rfl, rfl, Ow.chg c offb lstb _ _ _ _ (fun y hy z => ?_) h1, k5 ys' bv' hd⟩
    have e : y = b := by simpa using z
    subst e
    exact n3 y hy y k2 rfl
theorem Rep.nst {ρ : Rho} {f : List Addr} {i n : Nat} {xs ys : List D} (r : Rep K F H σ ρ f) (h : ρ.at i = some ⟨.own (.own .sh), .list xs⟩) (hx : xs[n]? = some (.list ys)) :
    ∃ a av b bv, σ[i]? = some (some (.ref a)) ∧ H a = some (.lst av) ∧ av.length = xs.length ∧ av[n]? = some (.ref b) ∧ H b = some (.lst bv) ∧ DvA K F H ys bv ∧
      ∀ (ys' : List D) (bv' : List V), DvA K F H ys' bv' → ∃ f', (∀ x ∈ f', x ∈ f) ∧ Chg F H F (upd H b (.lst bv')) f ∧ Rep K F (upd H b (.lst bv')) σ (ρ.set i (some ⟨.own (.own .sh), .list (xs.set n (.list ys'))⟩)) f' := by
  obtain ⟨o, ga, f0, h1, pp, ⟨v, rfl, s⟩, r0⟩ := r.out (at_some h)
  obtain ⟨a, av, g, rfl, h2, rfl, h3, hp⟩ := Ow_list.mp s
  have nd := pp.nodup_iff.mp r.nd
  obtain ⟨n1, n2, n3⟩ := List.nodup_append.mp nd
  obtain ⟨na, ng⟩ := List.nodup_cons.mp n1
  have mem : ∀ x ∈ a :: g, x ∈ f := fun x hx => pp.mem_iff.mpr (List.mem_append_left _ hx)
  have hi : i < ρ.length := (List.getElem?_eq_some_iff.mp (at_some h)).1
  obtain ⟨b, bv, k1, k2, k3, k4, k5⟩ := OwA.nest h3 ng (fun x hx => r.off x (mem x (by simp [hx]))) hx
  refine ⟨a, av, b, bv, h1, h2, h3.length, k1, k3, k4, fun ys' bv' hd => ?_⟩
  have hb : b ∈ f := mem b (by simp [k2])
  have c : Chg F H F (upd H b (.lst bv')) [b] := chg_upd (by rw [k3]; simp)
  have offb : ∀ x ∈ [b], ¬ F x := fun x hx => (show x = b by simpa using hx) ▸ r.off b hb
  have lstb : ∀ x ∈ [b], Mu H x := fun x hx => (show x = b by simpa using hx) ▸ .of k3
  have nf0 : b ∉ f0 := fun z => n3 b (by simp [k2]) b z rfl
  have ab : a ≠ b := fun e => na (e ▸ k2)
  have r1 : Rep K F (upd H b (.lst bv')) σ (ρ.set i none) f0 := ⟨r0.sl.chg c offb lstb fun x hx z => nf0 ((show x = b by simpa using z) ▸ hx), r0.nd, r0.off, fun x hx => c.dom x (r0.there x hx)⟩
  have ow : Ow K F (upd H b (.lst bv')) (.list (xs.set n (.list ys'))) (.own (.own .sh)) (.ref a) (a :: g) := Ow_list.mpr ⟨a, av, g, rfl, by rw [upd_ne ab]; exact h2, rfl, k5 ys' bv' hd, hp⟩
  obtain ⟨f', p', r2⟩ := r1.inn (i := i) (o := some (.ref a)) (e := some ⟨.own (.own .sh), .list (xs.set n (.list ys'))⟩) (g := a :: g) (by simp [hi]) ⟨_, rfl, ow⟩ nd fun x hx => r.off x (mem x hx)
  rw [set_idem, set_self h1] at r2
  exact ⟨f', fun x hx => pp.mem_iff.mpr (p'.mem_iff.mp hx), c.weak fun x hx => (show x = b by simpa using hx) ▸ hb, r2⟩
/-! ### plain reckoning -/
def evS (σ : L2.St) : A → Option Int
  | .lit n => some n
  | .nm i => match σ[i]? with
    | some (some (.int n)) => some n
    | _ => none
  | .add a b => match evS σ a, evS σ b with
    | some m, some n => some (m + n)
    | _, _ => none
  | .sub a b => match evS σ a, evS σ b with
    | some m, some n => some (m - n)
    | _, _ => none
theorem ev_rel {ρ : Rho} {f : List Addr} (r : Rep K F H σ ρ f) : ∀ {a : A} {n : Int}, evA ρ a = some n → evS σ a = some n
  | .lit m, n, h => h
  | .nm i, n, h => by
    unfold evA at h
    split at h
    · rename_i e
      cases h
      obtain ⟨v, g, h1, h2⟩ := r.get e
      have := h2.int
      subst this
      unfold evS
      rw [h1]
    · cases h
  | .add a b, n, h => by
    unfold evA at h
    split at h
    · rename_i e1 e2
      unfold evS
      rw [ev_rel r e1, ev_rel r e2]; exact h
    · cases h
  | .sub a b, n, h => by
    unfold evA at h
    split at h
    · rename_i e1 e2
      unfold evS
      rw [ev_rel r e1, ev_rel r e2]; exact h
    · cases h
def tAr (a : A) : TE := fun σ H Q => ∃ n, evS σ a = some n ∧ Q (.int n) H
end
section
variable {Φ : String → Spec} {X : Cx} {W : WX}
theorem pe_A : ∀ (a : A) {e : Expr}, okA X.env.scope X.N a e = true → PE X e (tAr a)
  | .lit n, e, h => by
    unfold okA at h; split at h <;> try contradiction
    · rename_i heq; cases heq
      have h := of_decide_eq_true h
      subst h
      exact PE.imp pe_int fun σ H Q ⟨m, e, q⟩ => by cases e; exact q
    · rename_i heq; cases heq
      have h := of_decide_eq_true h
      subst h
      exact PE.imp (pe_un un_neg pe_int) fun σ H Q ⟨m, e, q⟩ => by cases e; exact ⟨_, rfl, q⟩
  | .nm i, e, h => by
    unfold okA at h; split at h <;> try contradiction
    rename_i heq; cases heq
    refine PE.imp (pe_nm h) fun σ H Q ⟨m, e, q⟩ => ?_
    unfold evS at e
    split at e
    · rename_i e1
      cases e
      exact ⟨_, e1, q⟩
    · cases e
  | .add a b, e, h => by
    unfold okA at h; split at h <;> try contradiction
    rename_i heq; cases heq
    simp only [Bool.and_eq_true] at h
    refine PE.imp (pe_op op_add (pe_A a h.1) (pe_A b h.2)) fun σ H Q ⟨m, e, q⟩ => ?_
    unfold evS at e
    split at e
    · rename_i e1 e2
      cases e
      exact ⟨_, e1, _, e2, _, _, rfl, rfl, q⟩
    · cases e
  | .sub a b, e, h => by
    unfold okA at h; split at h <;> try contradiction
    rename_i heq; cases heq
    simp only [Bool.and_eq_true] at h
    refine PE.imp (pe_op op_sub (pe_A a h.1) (pe_A b h.2)) fun σ H Q ⟨m, e, q⟩ => ?_
    unfold evS at e
    split at e
    · rename_i e1 e2
      cases e
      exact ⟨_, e1, _, e2, _, _, rfl, rfl, q⟩
    · cases e
theorem okA_plain {sc : Scope} {N : List Str} {a : A} {e : Expr} (h : okA sc N a e = true) : PlainIx e := by
  intro o i
  cases e <;> first | rfl | (cases a <;> simp [okA] at h)
theorem onNst_some {ρ : Rho} {i : Nat} {a : A} {f : List D → Nat → List D → Prop} (h : onNst ρ i a f) : ∃ xs j n ys, ρ.at i = some ⟨.own (.own .sh), .list xs⟩ ∧ evA ρ a = some j ∧ ixN xs.length j = some n ∧ xs[n]? = some (.list ys) ∧ f xs n ys := by
  unfold onNst at h
  split at h
  · rename_i xs j e1 e2
    obtain ⟨n, ys, h1, h2, h3⟩ := h
    exact ⟨xs, j, n, ys, e1, e2, h1, h2, h3⟩
  · exact h.elim
theorem atI_of {α : Type} {xs : List α} {j : Int} {n : Nat} {x : α} (h : ixN xs.length j = some n) (hx : xs[n]? = some x) : atI xs j = some x := by
  unfold atI
  rw [h]; exact hx
theorem s_ix2 {i : Nat} {a b : A} {x : Str} {k1 k2 : Expr} {p p1 p2 : Pos} (h : nameB X.env.scope X.N i x = true) (h1 : okA X.env.scope X.N a k1 = true) (h2 : okA X.env.scope X.N b k2 = true) :
    PE X (.Subscript (.Subscript (.Name x p) k1 p1) k2 p2) (tE Φ X W (.ix2 i a b)) := by
  refine PE.imp (pe_ix ix_list (pe_ix ix_list (pe_nm h) (pe_A a h1) (okA_plain h1)) (pe_A b h2) (okA_plain h2)) fun σ H Q' ⟨F, ρ, f, Q, xe, r, xo, w, k⟩ => ?_
  simp only [wpE] at w
  obtain ⟨xs, j, n, ys, e1, e2, e3, e4, l, d, e5, e6, q⟩ := onNst_some w
  obtain ⟨a0, av, b0, bv, k1, k2, k3, k4, k5, k6, _⟩ := r.nst e1 e4
  obtain ⟨m, hm, hy⟩ := atI_some k6.length e6
  obtain ⟨v, hv, dv⟩ := k6.of_get hm
  refine ⟨_, k1, j, ev_rel r e2, a0, av, j, .ref b0, rfl, rfl, .of k2, atI_of (by rw [k3]; exact e3) k4, l, ev_rel r e5, b0, bv, l, v, rfl, rfl, .of k5, hy v hv, ?_⟩
  exact k v F H (sh d) ρ f [] (.refl r) (Ow_sh.mpr ⟨rfl, dv⟩) q
theorem s_len1 {i : Nat} {a : A} {x y : Str} {k1 : Expr} {p p1 p2 pos : Pos} (hy : y = Str.ofString "len") (hg : Gl X y) (hm : X.mg y = none) (ho : okName y = true) (h : nameB X.env.scope X.N i x = true) (h1 : okA X.env.scope X.N a k1 = true) :
    PE X (.Call (.Name y p2) [.Subscript (.Name x p) k1 p1] [] pos) (tE Φ X W (.len1 i a)) := by
  subst hy
  refine PE.imp (pe_callB call_len_seq hg hm boot_len (pa_cons (pe_ix ix_list (pe_nm h) (pe_A a h1) (okA_plain h1)) pa_nil)) fun σ H Q' ⟨F, ρ, f, Q, xe, r, xo, w, k⟩ => ?_
  simp only [wpE] at w
  obtain ⟨xs, j, n, ys, e1, e2, e3, e4, q⟩ := onNst_some w
  obtain ⟨a0, av, b0, bv, k1, k2, k3, k4, k5, k6, _⟩ := r.nst e1 e4
  refine ⟨_, k1, j, ev_rel r e2, a0, av, j, .ref b0, rfl, rfl, .of k2, atI_of (by rw [k3]; exact e3) k4, b0, bv, rfl, .inl (.of k5), ?_⟩
  refine k _ F H (sh (.int ys.length)) ρ f [] (.refl r) (Ow_sh.mpr ⟨rfl, ?_⟩) q
  rw [k6.length]
  exact dv_int
theorem lstB_get {K : PySem.W.Frag} {F : Addr → Prop} {H : Hp} {σ : L2.St} {ρ : Rho} {f : List Addr} {i : Nat} (r : Rep K F H σ ρ f) (h : lstB ρ i = true) : ∃ a av, σ[i]? = some (some (.ref a)) ∧ H a = some (.lst av) := by
  unfold lstB at h
  split at h
  · rename_i he
    obtain ⟨a0, av0, g0, k1, k2, _⟩ := r.own he
    exact ⟨a0, av0, k1, k2⟩
  · rename_i he
    obtain ⟨u, gu, h2, h3⟩ := r.get he
    have h3 := (Ow_sh.mp h3).2
    simp only [Dv] at h3
    obtain ⟨a, xs, rfl, _, k, _⟩ := h3
    exact ⟨a, xs, h2, k⟩
  · cases h
/-- xs.index(e) -/
theorem s_idx {i : Nat} {x m : Str} {p ap cp : Pos} {e : Expr} {c : E} (hu : X.A.units + 65 < cLine) (h : nameB X.env.scope X.N i x = true) (hm : m = Str.ofString "index") (hl : (ap.endLine == cp.line) = true) (h1 : PE X e (tE Φ X W c)) (hs : starEach [e] X.env = [(false, eval e X.env)]) :
    PE X (.Call (.Attribute (.Name x p) m ap) [e] [] cp) (tE Φ X W (.idx i c)) := by
  subst hm
  refine PE.imp (pe_bm PySem.F.plainAttrs_list PySem.F.slot_list_index PySem.F.type_list_index (mt_indexD hu) (pe_nm h) (pa_cons h1 pa_nil hs) (hline := hl) (hs := hs) (hfew := by rw [hs]; rfl)) fun σ H Q' ⟨F, ρ, f, Q, xe, r, xo, w, k⟩ => ?_
  simp only [wpE] at w
  obtain ⟨hb, w⟩ := w
  obtain ⟨a0, av0, k1, k2⟩ := lstB_get r hb
  refine ⟨_, k1, tyL k2, F, ρ, f, _, xe, r, xo, w, fun v F1 H1 e1 ρ1 f1 g1 fin o q => ?_⟩
  obtain ⟨e, he, q⟩ := onO_some q
  obtain ⟨u, gu, h2, h3⟩ := fin.rep.get he
  have ea : u = .ref a0 := by have := k1.symm.trans h2; simpa using this.symm
  subst ea
  split at q
  · obtain ⟨q1, q2, n, q3, q⟩ := q
    obtain ⟨hn, e1, e2⟩ := List.findIdx?_eq_some_iff_getElem.mp q3
    refine ⟨a0, v, _, _, n, _, rfl, rfl, Ow.dp _ _ _ _ (SeqAt.canLay_of_shaped q1) h3, Ow.dp _ _ _ _ (SeqAt.canLay_of_shaped q2) o, q1, q2, List.getElem?_eq_getElem hn, e1, fun m z' hm hz => ?_, ?_⟩
    · have := e2 m hm
      rw [(List.getElem?_eq_some_iff.mp hz).2] at this
      simpa using this
    · exact k _ F1 H1 (sh (.int n)) ρ1 f1 [] fin.drop (Ow_sh.mpr ⟨rfl, dv_int⟩) q
  · exact q.elim
end
end MS
namespace MS
open PySem PySem.Spec PyProof.Rows L2
section
variable {fs : Fs} {Φ : String → Spec} {X : Cx} {W : WX}
theorem bltB_of' {s : String} {x : Str} (h : bltB X.env.scope s x = true) : x = Str.ofString s ∧ Gl X x ∧ okName x = true := by
  unfold bltB at h
  simp only [Bool.and_eq_true, decide_eq_true_eq] at h
  exact ⟨h.1, glB_of h.2⟩
theorem star_of' {e : Expr} {es : List Expr} (h : notStar e = true) : starEach (e :: es) X.env = (false, eval e X.env) :: starEach es X.env := by
  cases e <;> first | rfl | simp [notStar] at h
def tB (X : Cx) (b : B) : TE := fun σ H Q => ∃ (F : Addr → Prop) (ρ : Rho) (f : List Addr) (n : Int), Rep X.K F H σ ρ f ∧ evB ρ b = some n ∧ Q (.int n) H
theorem pe_B (hc : X.calm = true) (hb : ∀ s ∈ ["len", "min", "max"], X.mg (Str.ofString s) = none) : ∀ (b : B) {e : Expr}, okB X.env.scope X.N b e = true → PE X e (tB X b)
  | .a a, e, h => by
    have h : okA X.env.scope X.N a e = true := by
      unfold okB at h
      exact h
    exact PE.imp (pe_A a h) fun σ H Q ⟨F, ρ, f, n, r, e, q⟩ => ⟨n, ev_rel r e, q⟩
  | .add a b, e, h => by
    unfold okB at h; split at h <;> try contradiction
    rename_i heq; cases heq
    simp only [Bool.and_eq_true] at h
    refine PE.imp (pe_op op_add (pe_B hc hb a h.1) (pe_B hc hb b h.2)) fun σ H Q ⟨F, ρ, f, n, r, e, q⟩ => ?_
    unfold evB at e
    split at e
    · rename_i e1 e2
      cases e
      exact ⟨F, ρ, f, _, r, e1, F, ρ, f, _, r, e2, _, _, rfl, rfl, q⟩
    · cases e
  | .sub a b, e, h => by
    unfold okB at h; split at h <;> try contradiction
    rename_i heq; cases heq
    simp only [Bool.and_eq_true] at h
    refine PE.imp (pe_op op_sub (pe_B hc hb a h.1) (pe_B hc hb b h.2)) fun σ H Q ⟨F, ρ, f, n, r, e, q⟩ => ?_
    unfold evB at e
    split at e
    · rename_i e1 e2
      cases e
      exact ⟨F, ρ, f, _, r, e1, F, ρ, f, _, r, e2, _, _, rfl, rfl, q⟩
    · cases e
  | .min a b, e, h => by
    unfold okB at h; split at h <;> try contradiction
    rename_i heq; cases heq
    simp only [Bool.and_eq_true] at h
    obtain ⟨⟨⟨⟨h1, h2⟩, h3⟩, h4⟩, h5⟩ := h
    obtain ⟨e0, g1, o1⟩ := bltB_of' h1
    subst e0
    refine PE.imp (pe_callB (call_min2 hc) g1 (hb _ (by simp)) boot_min (pa_cons (pe_B hc hb a h4) (pa_cons (pe_B hc hb b h5) pa_nil (star_of' h3)) (star_of' h2)) (he := star_of' h2) (hpl := by rw [star_of' h3]; rfl)) fun σ H Q ⟨F, ρ, f, n, r, e, q⟩ => ?_
    unfold evB at e
    split at e
    · rename_i e1 e2
      cases e
      exact ⟨F, ρ, f, _, r, e1, F, ρ, f, _, r, e2, _, _, rfl, q⟩
    · cases e
  | .max a b, e, h => by
    unfold okB at h; split at h <;> try contradiction
    rename_i heq; cases heq
    simp only [Bool.and_eq_true] at h
    obtain ⟨⟨⟨⟨h1, h2⟩, h3⟩, h4⟩, h5⟩ := h
    obtain ⟨e0, g1, o1⟩ := bltB_of' h1
    subst e0
    refine PE.imp (pe_callB (call_max2 hc) g1 (hb _ (by simp)) boot_max (pa_cons (pe_B hc hb a h4) (pa_cons (pe_B hc hb b h5) pa_nil (star_of' h3)) (star_of' h2)) (he := star_of' h2) (hpl := by rw [star_of' h3]; rfl)) fun σ H Q ⟨F, ρ, f, n, r, e, q⟩ => ?_
    unfold evB at e
    split at e
    · rename_i e1 e2
      cases e
      exact ⟨F, ρ, f, _, r, e1, F, ρ, f, _, r, e2, _, _, rfl, q⟩
    · cases e
  | .len1 i a, e, h => by
    unfold okB at h; split at h <;> try contradiction
    rename_i heq; cases heq
    simp only [Bool.and_eq_true] at h
    obtain ⟨⟨h1, h2⟩, h3⟩ := h
    obtain ⟨e0, g1, o1⟩ := bltB_of' h1
    subst e0
    refine PE.imp (pe_callB call_len_seq g1 (hb _ (by simp)) boot_len (pa_cons (pe_ix ix_list (pe_nm h2) (pe_A a h3) (okA_plain h3)) pa_nil)) fun σ H Q ⟨F, ρ, f, n, r, e, q⟩ => ?_
    unfold evB at e
    split at e
    · rename_i e1 e2
      split at e
      · rename_i m e3
        split at e
        · rename_i ys e4
          cases e
          obtain ⟨a0, av, b0, bv, k1, k2, k3, k4, k5, k6, _⟩ := r.nst e1 e4
          refine ⟨_, k1, _, ev_rel r e2, a0, av, _, .ref b0, rfl, rfl, .of k2, atI_of (by rw [k3]; exact e3) k4, b0, bv, rfl, .inl (.of k5), ?_⟩
          rw [k6.length]
          exact q
        · cases e
      · cases e
    · cases e
/-- found[a] + [0] * b -/
theorem s_zcat {i : Nat} {a : A} {b : B} {x : Str} {k1 k2 : Expr} {p p1 p2 p3 p4 p5 : Pos} {j : Nat} (hc : X.calm = true) (hb : ∀ s ∈ ["len", "min", "max"], X.mg (Str.ofString s) = none) (h : nameB X.env.scope X.N i x = true) (h1 : okA X.env.scope X.N a k1 = true) (h2 : okB X.env.scope X.N b k2 = true) :
    PE X (.BinOp (.Subscript (.Name x p) k1 p1) .Add (.BinOp (.List [.Constant (.int 0) j p5] p2) .Mult k2 p3) p4) (tE Φ X W (.zcat i a b)) := by
  obtain ⟨r1, o1, R1⟩ := b_add (X := X)
  obtain ⟨r2, o2, R2⟩ := b_mul (X := X)
  refine PE.imp (pe_op (opR_cl o1) (pe_ix ix_list (pe_nm h) (pe_A a h1) (okA_plain h1)) (pe_op (opR_cl o2) (pe_lst (pa_cons pe_int pa_nil)) (pe_B hc hb b h2))) fun σ H Q' ⟨F, ρ, f, Q, xe, r, xo, w, k⟩ => ?_
  simp only [wpE] at w
  obtain ⟨xs, jj, n, ys, e1, e2, e3, e4, kk, e5, e6, e7, e8, q⟩ := onNst_some w
  obtain ⟨a0, av, b0, bv, k1, k2, k3, k4, k5, k6, _⟩ := r.nst e1 e4
  refine ⟨_, k1, jj, ev_rel r e2, a0, av, jj, .ref b0, rfl, rfl, .of k2, atI_of (by rw [k3]; exact e3) k4, ?_⟩
  refine ⟨(show 1 ≤ sizeLine by unfold sizeLine; decide), fun p0 hp0 => ?_⟩
  have c1 : Chg F H F (upd H p0 (.lst [.int 0])) [] := chg_new hp0
  have rr := r.new c1 fun z hz => c1.dom z (r.there z hz)
  refine ⟨F, ρ, f, kk, rr, e5, ?_⟩
  refine ⟨_, R2 F _ (ownL (.list [.int 0])) (sh (.int kk)) (.ref p0) (.int kk) [p0] [] (fun e => e = ownL (.list (List.replicate kk.toNat [.int 0]).flatten)) (Ow_list.mpr ⟨p0, [.int 0], [], rfl, upd_same, rfl, OwA_sh.mpr ⟨rfl, DvA_cons.mpr ⟨_, _, rfl, dv_int, DvA_nil.mpr rfl⟩⟩, by simp⟩) (Ow_sh.mpr ⟨rfl, dv_int⟩) ?_, fun v2 H2 z2 => ?_⟩
  · refine ⟨rfl, e6, e7, ?_, rfl⟩
    show 1 * kk.toNat ≤ sizeLine
    omega
  · have cz : Chg F (upd H p0 (.lst [.int 0])) F H2 [] := by
      obtain ⟨_, _, c, _⟩ := z2
      exact c
    have fin1 : FinG X.K F H σ f F (upd H p0 (.lst [.int 0])) ρ f [] := ⟨rr, by simpa using r.nd, by simp, fun z hz => .inl (by simpa using hz), by simp, c1.weak (by simp)⟩
    obtain ⟨e2, g2, fin2, o2', q2⟩ := fin1.res z2
    subst q2
    -- what stands at b0
    have ne : b0 ≠ p0 := fun z => by rw [z, hp0] at k5; cases k5
    have hb0 : H2 b0 = some (.lst bv) := cz.keep _ _ (by rw [upd_ne ne]; exact k5) (by simp)
    have dv2 : DvA X.K F H2 ys bv := DvA.chg cz (by simp) (by simp) _ _ (DvA.chg c1 (by simp) (by simp) _ _ k6)
    refine ⟨_, R1 F H2 (ownL (.list ys)) (ownL (.list (List.replicate kk.toNat [.int 0]).flatten)) (.ref b0) v2 [b0] g2 (fun e => e = ownL (.list (ys ++ (List.replicate kk.toNat [.int 0]).flatten))) (Ow_list.mpr ⟨b0, bv, [], rfl, hb0, rfl, OwA_sh.mpr ⟨rfl, dv2⟩, by simp⟩) o2' ?_, fun v3 H3 z3 => ?_⟩
    · refine ⟨rfl, rfl, ?_, rfl⟩
      simp
      omega
    · obtain ⟨e3, g3, fin3, o3, q3⟩ := fin2.drop.res z3
      subst q3
      exact k v3 F H3 _ ρ f g3 fin3 o3 q
theorem isLst_some' {e : Ety} {f : Perm → List D → Prop} (h : isLst e f) : ∃ p xs, e = ⟨p, .list xs⟩ ∧ f p xs := by
  obtain ⟨p, d⟩ := e
  cases d <;> first | exact h.elim | exact ⟨_, _, rfl, h⟩
/-- found[a] + e, found out of sight of e -/
theorem s_hcat {i : Nat} {a : A} {e : E} {x : Str} {k1 v : Expr} {p p1 p4 : Pos} (h : nameB X.env.scope X.N i x = true) (h1 : okA X.env.scope X.N a k1 = true) (he : PE X v (tE Φ X W e)) :
    PE X (.BinOp (.Subscript (.Name x p) k1 p1) .Add v p4) (tE Φ X W (.hcat i a e)) := by
  obtain ⟨r1, o1, R1⟩ := b_add (X := X)
  refine PE.imp (pe_op (opR_cl o1) (pe_ix ix_list (pe_nm h) (pe_A a h1) (okA_plain h1)) he) fun σ H Q' ⟨F, ρ, f, Q, xe, r, xo, w, k⟩ => ?_
  simp only [wpE] at w
  obtain ⟨xs, jj, n, ys, e1, e2, e3, e4, w⟩ := onNst_some w
  obtain ⟨o, ga, f0, hs, pp, ⟨v', rfl, ow⟩, r0⟩ := r.out (at_some e1)
  have nd := pp.nodup_iff.mp r.nd
  have ow0 := ow
  obtain ⟨a0, av, g, rfl, k2, rfl, h3, _⟩ := Ow_list.mp ow
  obtain ⟨n1, n2, n3⟩ := List.nodup_append.mp nd
  have mem : ∀ x ∈ a0 :: g, x ∈ f := fun x hx => pp.mem_iff.mpr (List.mem_append_left _ hx)
  have mem0 : ∀ x ∈ f0, x ∈ f := fun x hx => pp.mem_iff.mpr (List.mem_append_right _ hx)
  have ap : ∀ x ∈ a0 :: g, x ∉ f0 := fun x hx z => n3 x hx x z rfl
  obtain ⟨b0, bv, k4, kb, k5, k6, _⟩ := OwA.nest h3 (List.nodup_cons.mp n1).2 (fun x hx => r.off x (mem x (by simp [hx]))) e4
  refine ⟨_, hs, jj, ev_rel r e2, a0, av, jj, .ref b0, rfl, rfl, .of k2, atI_of (by rw [h3.length]; exact e3) k4, ?_⟩
  refine ⟨F, ρ.set i none, f0, _, _, r0, xok_false, w, fun v F1 H1 e5 ρ1 f1 g1 fin o5 q => ?_⟩
  obtain ⟨q0, zs, rfl, hq, hz, q⟩ := isLst_some' q
  have nb : b0 ∉ f0 := ap b0 (by simp [kb])
  have hb : H1 b0 = some (.lst bv) := fin.chg.keep _ _ k5 nb
  have dv1 : DvA X.K F1 H1 ys bv := DvA.chg fin.chg r0.off r0.lst _ _ k6
  refine ⟨_, R1 F1 H1 (ownL (.list ys)) ⟨q0, .list zs⟩ (.ref b0) v [b0] g1 (fun e => e = ownL (.list (ys ++ zs))) (Ow_list.mpr ⟨b0, bv, [], rfl, hb, rfl, OwA_sh.mpr ⟨rfl, dv1⟩, by simp⟩) o5 ⟨rfl, hq, hz, rfl⟩, fun v3 H3 z3 => ?_⟩
  obtain ⟨e6, g3, fin3, o3, q3⟩ := fin.drop.res z3
  subst q3
  have ow3 : Ow X.K F1 H3 (.list xs) (.own (.own .sh)) (.ref a0) (a0 :: g) := Ow.chg fin3.chg r0.off r0.lst _ _ _ _ ap ow0
  have apn : ∀ x ∈ a0 :: g, ∀ y, (y ∈ f0 ∨ H y = none) → x ≠ y := fun x hx y hy e => by
    subst e
    rcases hy with z | z
    · exact ap x hx z
    · exact r.ne (mem x hx) z
  have hlen : i < ρ1.length := by
    have h1 := fin3.rep.sl.length
    have h2 := (List.getElem?_eq_some_iff.mp hs).1
    omega
  have offg : ∀ x ∈ a0 :: g, ¬ F1 x := fun x hx z => by
    rcases fin3.chg.new x z with y | y | y
    · exact r.off x (mem x hx) y
    · exact ap x hx y
    · exact r.ne (mem x hx) y
  obtain ⟨f2, s2, r2⟩ := fin3.rep.put (i := i) (e := ⟨.own (.own .sh), .list xs⟩) hlen ow3 (List.nodup_append.mpr ⟨n1, fin3.rep.nd, fun x hx y hy => apn x hx y (fin3.sub' y hy)⟩) offg
  rw [set_self hs] at r2
  refine k v3 F1 H3 _ _ f2 g3 ⟨r2, List.nodup_append.mpr ⟨(List.nodup_append.mp fin3.nd).1, r2.nd, fun x hx y hy e => ?_⟩, fin3.off, fun x hx => ?_, fin3.lst, fin3.chg.weak mem0⟩ o3 q
  · subst e
    rcases List.mem_append.mp (s2 x hy) with z | z
    · exact apn x z x (fin3.sub x (List.mem_append_left _ hx)) rfl
    · exact (List.nodup_append.mp fin3.nd).2.2 x hx x z rfl
  · rcases List.mem_append.mp hx with z | z
    · exact (fin3.sub x (List.mem_append_left _ z)).imp (mem0 x) id
    · rcases List.mem_append.mp (s2 x z) with y | y
      · exact .inl (mem x y)
      · exact (fin3.sub' x y).imp (mem0 x) id
end
end MS
namespace MS
open PySem PySem.Spec PyProof.Rows L2
/-! ### dicts with rows as keys -/
theorem gK_nil {α : Type} {l : List Int} : gK ([] : List (List Int × α)) l = none := rfl
theorem gK_pos {α : Type} {p : List Int × α} {r : List (List Int × α)} {l : List Int} (e : p.1 = l) : gK (p :: r) l = some p.2 := by simp [gK, List.find?_cons, e]
theorem gK_neg {α : Type} {p : List Int × α} {r : List (List Int × α)} {l : List Int} (e : ¬ p.1 = l) : gK (p :: r) l = gK r l := by simp [gK, List.find?_cons, e]
theorem gK_any {α : Type} (l : List Int) : ∀ hk : List (List Int × α), (hk.any fun z => decide (z.1 = l)) = (gK hk l).isSome
  | [] => rfl
  | p :: r => by
    rw [List.any_cons]
    by_cases e : p.1 = l
    · rw [gK_pos e]; simp [e]
    · rw [gK_neg e, decide_eq_false e, Bool.false_or]; exact gK_any l r
theorem inl_inj : ∀ {a b : List Int}, (a.map Sum.inl : List Key) = b.map Sum.inl ↔ a = b
  | [], [] => by simp
  | [], _ :: _ => by simp
  | _ :: _, [] => by simp
  | x :: a, y :: b => by
    simp only [List.map_cons, List.cons.injEq]
    rw [inl_inj (a := a) (b := b)]
    constructor
    · rintro ⟨h, rfl⟩; cases h; exact ⟨rfl, rfl⟩
    · rintro ⟨rfl, rfl⟩; exact ⟨rfl, rfl⟩
abbrev hkV (hk : List (List Int × V)) : List (List Key × V) := hk.map fun p => (p.1.map .inl, p.2)
theorem valV_hk (l : List Int) : ∀ hk : List (List Int × V), valV (hkV hk) (l.map .inl) = gK hk l
  | [] => rfl
  | p :: r => by
    show valV ((p.1.map .inl, p.2) :: hkV r) (l.map .inl) = _
    by_cases e : p.1 = l
    · rw [gK_pos e, valV_pos (p := ((p.1.map .inl : List Key), p.2)) (by rw [e])]
    · rw [gK_neg e, valV_neg (p := ((p.1.map .inl : List Key), p.2)) (fun z => e (inl_inj.mp z))]; exact valV_hk l r
theorem putK_hk (l : List Int) (v : V) (hk : List (List Int × V)) : putK (hkV hk) (l.map .inl) v = hkV (pK hk l v) := by
  unfold putK pK
  rw [valV_any, valV_hk, gK_any]
  by_cases h : (gK hk l).isSome = true
  · rw [if_pos h, if_pos h]
    simp only [hkV, List.map_map]
    refine List.map_congr_left fun p _ => ?_
    simp only [Function.comp]
    by_cases e : p.1 = l
    · rw [if_pos e, if_pos (by rw [e])]
    · rw [if_neg e, if_neg fun z => e (inl_inj.mp z)]
  · rw [if_neg h, if_neg h]
    simp [hkV]
theorem kV_inl (l : List Int) : ((l.map Sum.inl : List Key)).map kV = l.map V.int := by
  rw [List.map_map]; rfl
section
variable {K : PySem.W.Frag} {F : Addr → Prop} {H : Hp}
theorem DvK_cons {k d : D} {kvs : List (D × D)} {xs : List V} : DvK K F H ((k, d) :: kvs) xs ↔ ∃ x xr, xs = x :: xr ∧ Dv K F H d x ∧ DvK K F H kvs xr := by simp only [DvK]
/-- the pairs stand for the pairs -/
def TP (K : PySem.W.Frag) (F : Addr → Prop) (H : Hp) : List (List Int × D) → List (List Int × V) → Prop
  | [], [] => True
  | p :: ps, q :: qs => p.1 = q.1 ∧ Dv K F H p.2 q.2 ∧ TP K F H ps qs
  | _, _ => False
theorem TP.length : ∀ {ps : List (List Int × D)} {qs : List (List Int × V)}, TP K F H ps qs → qs.length = ps.length
  | [], [], _ => rfl
  | p :: ps, q :: qs, h => by simp [TP.length h.2.2]
  | [], _ :: _, h => h.elim
  | _ :: _, [], h => h.elim
theorem TP.keys : ∀ {ps : List (List Int × D)} {qs : List (List Int × V)}, TP K F H ps qs → ps.map (fun p => PyData.tuple (intsD p.1)) = qs.map (fun p => PyData.tuple (intsD p.1))
  | [], [], _ => rfl
  | p :: ps, q :: qs, h => by rw [List.map_cons, List.map_cons, TP.keys h.2.2, h.1]
  | [], _ :: _, h => h.elim
  | _ :: _, [], h => h.elim
theorem TP.dvk : ∀ {ps : List (List Int × D)} {qs : List (List Int × V)}, TP K F H ps qs → DvK K F H (ps.map fun p => (.tuple (intsD p.1), p.2)) (qs.map (·.2))
  | [], [], _ => by simp only [List.map_nil, DvK]
  | p :: ps, q :: qs, h => by
    exact DvK_cons.mpr ⟨_, _, rfl, h.2.1, TP.dvk h.2.2⟩
  | [], _ :: _, h => h.elim
  | _ :: _, [], h => h.elim
theorem intsD_inj : ∀ {a b : List Int}, intsD a = intsD b → a = b
  | [], [], _ => rfl
  | x :: a, y :: b, h => by
    simp only [intsD, List.map_cons, List.cons.injEq, PyData.int.injEq] at h
    rw [h.1, intsD_inj h.2]
  | [], _ :: _, h => by simp [intsD] at h
  | _ :: _, [], h => by simp [intsD] at h
theorem TP.mk : ∀ {ps : List (List Int × D)} {qs : List (List Int × V)}, ps.map (fun p => PyData.tuple (intsD p.1)) = qs.map (fun p => PyData.tuple (intsD p.1)) → DvK K F H (ps.map fun p => (.tuple (intsD p.1), p.2)) (qs.map (·.2)) → TP K F H ps qs
  | [], [], _, _ => trivial
  | p :: ps, q :: qs, h, k => by
    simp only [List.map_cons, List.cons.injEq, PyData.tuple.injEq] at h
    obtain ⟨x, xr, e, k1, k2⟩ := DvK_cons.mp k
    simp only [List.map_cons, List.cons.injEq] at e
    obtain ⟨rfl, rfl⟩ := e
    exact ⟨intsD_inj h.1, k1, TP.mk h.2 k2⟩
  | [], _ :: _, h, _ => by simp at h
  | _ :: _, [], h, _ => by simp at h
theorem TP.get {l : List Int} : ∀ {ps : List (List Int × D)} {qs : List (List Int × V)}, TP K F H ps qs → (gK ps l).isSome = (gK qs l).isSome ∧ ∀ d, gK ps l = some d → ∃ v, gK qs l = some v ∧ Dv K F H d v
  | [], [], _ => ⟨rfl, fun d h => by simp [gK_nil] at h⟩
  | p :: ps, q :: qs, h => by
    by_cases e : p.1 = l
    · have e2 : q.1 = l := h.1 ▸ e
      rw [gK_pos e, gK_pos e2]
      exact ⟨rfl, fun d z => ⟨_, rfl, by cases z; exact h.2.1⟩⟩
    · have e2 : ¬ q.1 = l := h.1 ▸ e
      rw [gK_neg e, gK_neg e2]
      exact TP.get h.2.2
  | [], _ :: _, h => h.elim
  | _ :: _, [], h => h.elim
theorem TP.repl {l : List Int} {d : D} {v : V} (o : Dv K F H d v) : ∀ {ps : List (List Int × D)} {qs : List (List Int × V)}, TP K F H ps qs → TP K F H (ps.map fun z => if z.1 = l then (z.1, d) else z) (qs.map fun z => if z.1 = l then (z.1, v) else z)
  | [], [], _ => trivial
  | p :: ps, q :: qs, h => by
    rw [List.map_cons, List.map_cons]
    have ih := TP.repl (l := l) o h.2.2
    by_cases e : p.1 = l
    · have e2 : q.1 = l := h.1 ▸ e
      rw [if_pos e, if_pos e2]
      exact ⟨h.1, o, ih⟩
    · have e2 : ¬ q.1 = l := h.1 ▸ e
      rw [if_neg e, if_neg e2]
      exact ⟨h.1, h.2.1, ih⟩
  | [], _ :: _, h => h.elim
  | _ :: _, [], h => h.elim
theorem TP.snoc {l : List Int} {d : D} {v : V} (o : Dv K F H d v) : ∀ {ps : List (List Int × D)} {qs : List (List Int × V)}, TP K F H ps qs → TP K F H (ps ++ [(l, d)]) (qs ++ [(l, v)])
  | [], [], _ => ⟨rfl, o, trivial⟩
  | p :: ps, q :: qs, h => ⟨h.1, h.2.1, TP.snoc o h.2.2⟩
  | [], _ :: _, h => h.elim
  | _ :: _, [], h => h.elim
theorem TP.put {l : List Int} {d : D} {v : V} {ps : List (List Int × D)} {qs : List (List Int × V)} (o : Dv K F H d v) (h : TP K F H ps qs) : TP K F H (pK ps l d) (pK qs l v) := by
  unfold pK
  rw [gK_any, gK_any, (h.get (l := l)).1]
  by_cases e : (gK qs l).isSome = true
  · rw [if_pos e, if_pos e]; exact h.repl o
  · rw [if_neg e, if_neg e]; exact h.snoc o
theorem TP.chg {F' : Addr → Prop} {H' : Hp} {A : List Addr} (c : Chg F H F' H' A) (off : ∀ a ∈ A, ¬ F a) (lst : ∀ a ∈ A, Mu H a) : ∀ {ps : List (List Int × D)} {qs : List (List Int × V)}, TP K F H ps qs → TP K F' H' ps qs
  | [], [], _ => trivial
  | p :: ps, q :: qs, h => ⟨h.1, Dv.chg c off lst _ _ h.2.1, TP.chg c off lst h.2.2⟩
  | [], _ :: _, h => h.elim
  | _ :: _, [], h => h.elim
theorem ow_dT {hk : List (List Int × D)} {v : V} {f : List Addr} : Ow K F H (dT hk) (.own .sh) v f ↔ ∃ a qs, v = .ref a ∧ f = [a] ∧ H a = some (.dT (hkV qs)) ∧ TP K F H hk qs := by
  unfold dT
  rw [Ow_dict]
  constructor
  · rintro ⟨a, xs, g, rfl, h1, rfl, h2, _⟩
    obtain ⟨eg, h4⟩ := OwK_sh.mp h2
    subst eg
    rcases h1 with ⟨qs, _, e, _⟩ | ⟨qs, h1, e, rfl⟩
    · cases qs with
      | nil => simp at e
      | cons q r => simp at e
    · refine ⟨a, qs, rfl, rfl, h1, ?_⟩
      simp only [List.map_cons, List.map_map, List.cons.injEq, true_and] at e
      obtain ⟨x, xr, e2, _, h3⟩ := DvK_cons.mp h4
      simp only [List.cons.injEq] at e2
      obtain ⟨_, rfl⟩ := e2
      exact TP.mk e h3
  · rintro ⟨a, qs, rfl, rfl, h1, h2⟩
    refine ⟨a, .non :: qs.map (·.2), [], rfl, .inr ⟨qs, h1, ?_, rfl⟩, rfl, OwK_sh.mpr ⟨rfl, ?_⟩, trivial⟩
    · simp only [List.map_cons, List.map_map, List.cons.injEq, true_and]
      exact h2.keys
    · exact DvK_cons.mpr ⟨_, _, rfl, by simp only [Dv], h2.dvk⟩
theorem dvA_ints_inv : ∀ {l : List Int} {xs : List V}, DvA K F H (intsD l) xs → xs = l.map V.int
  | [], xs, h => DvA_nil.mp h
  | i :: l, xs, h => by
    obtain ⟨x, xr, rfl, h1, h2⟩ := DvA_cons.mp h
    simp only [Dv] at h1
    subst h1
    rw [dvA_ints_inv h2]; rfl
theorem ow_key {l : List Int} {v : V} {f : List Addr} (h : Ow K F H (.tuple (intsD l)) (.own .sh) v f) : ∃ b, v = .ref b ∧ H b = some (.tup ((l.map Sum.inl : List Key).map kV)) := by
  obtain ⟨_, _, a, xs, rfl, h1, h2⟩ := Ow_tup.mp h
  rw [dvA_ints_inv h2] at h1
  exact ⟨a, rfl, by rw [kV_inl]; exact h1⟩
theorem res_tupT {Q : Ety → Prop} {ds : List D} {xs : List V} {p : Addr} (hp : H p = none) (h : DvA K F H ds xs) (q : Q (ownL (.tuple ds))) : Res K F H Q (.ref p) (upd H p (.tup xs)) := by
  have h' := DvA.chg (chg_new (o := .tup xs) hp) (by simp) (by simp) _ _ h
  refine ⟨ownL (.tuple ds), [], chg_new hp, Ow_tup.mpr ⟨rfl, ?_, p, xs, rfl, upd_same, h'⟩, by simp, by simp, q⟩
  simp only [Dv]
  exact ⟨p, xs, rfl, .of upd_same, h'⟩
theorem res_dT {Q : Ety → Prop} {p : Addr} (hp : H p = none) (q : Q (ownL (dT []))) : Res K F H Q (.ref p) (upd H p (.dT [])) :=
  ⟨ownL (dT []), [p], chg_new hp, ow_dT.mpr ⟨p, [], rfl, rfl, upd_same, trivial⟩, by simpa using hp, by simp, q⟩
/-- a dict of a name is changed in place -/
theorem Rep.dct {σ : L2.St} {ρ : Rho} {f : List Addr} {i : Nat} {hk : List (List Int × D)} (r : Rep K F H σ ρ f) (h : ρ.at i = some (ownL (dT hk))) :
    ∃ a qs, σ[i]? = some (some (.ref a)) ∧ H a = some (.dT (hkV qs)) ∧ TP K F H hk qs ∧
      ∀ (hk' : List (List Int × D)) (qs' : List (List Int × V)), TP K F H hk' qs' →
        ∃ f', (∀ x ∈ f', x ∈ f) ∧ Chg F H F (upd H a (.dT (hkV qs'))) f ∧ Rep K F (upd H a (.dT (hkV qs'))) σ (ρ.set i (some (ownL (dT hk')))) f' := by
  obtain ⟨o, ga, f0, h1, pp, ⟨v, rfl, s⟩, r0⟩ := r.out (at_some h)
  obtain ⟨a, qs, rfl, rfl, h2, h3⟩ := ow_dT.mp s
  have nd := pp.nodup_iff.mp r.nd
  obtain ⟨n1, n2, n3⟩ := List.nodup_append.mp nd
  have hi : i < ρ.length := (List.getElem?_eq_some_iff.mp (at_some h)).1
  have ha : a ∈ f := pp.mem_iff.mpr (by simp)
  refine ⟨a, qs, h1, h2, h3, fun hk' qs' h4 => ?_⟩
  have c : Chg F H F (upd H a (.dT (hkV qs'))) [a] := chg_upd (by rw [h2]; simp)
  have offa : ∀ x ∈ [a], ¬ F x := fun x hx => (show x = a by simpa using hx) ▸ r.off a ha
  have lsta : ∀ x ∈ [a], Mu H x := fun x hx => (show x = a by simpa using hx) ▸ ⟨.t _, h2⟩
  have nf0 : a ∉ f0 := fun z => n3 a (by simp) a z rfl
  have r1 : Rep K F (upd H a (.dT (hkV qs'))) σ (ρ.set i none) f0 := ⟨r0.sl.chg c offa lsta fun x hx z => nf0 ((show x = a by simpa using z) ▸ hx), r0.nd, r0.off, fun x hx => c.dom x (r0.there x hx)⟩
  have ow : Ow K F (upd H a (.dT (hkV qs'))) (dT hk') (.own .sh) (.ref a) [a] := ow_dT.mpr ⟨a, qs', rfl, rfl, upd_same, h4.chg c offa lsta⟩
  obtain ⟨f', p', r2⟩ := r1.inn (i := i) (o := some (.ref a)) (e := some (ownL (dT hk'))) (g := [a]) (by simp [hi]) ⟨_, rfl, ow⟩ nd offa
  rw [set_idem, set_self h1] at r2
  exact ⟨f', fun x hx => pp.mem_iff.mpr (p'.mem_iff.mp hx), c.weak fun x hx => (show x = a by simpa using hx) ▸ ha, r2⟩
end
section
variable {Φ : String → Spec} {X : Cx} {W : WX}
theorem s_dnewT {pos : Pos} : PE X (.Dict [] [] pos) (tE Φ X W .dnewT) := PE.imp pe_dnewT fun σ H Q' ⟨F, ρ, f, Q, xe, r, x, w, k⟩ => by
  simp only [wpE] at w
  intro p hp
  obtain ⟨e, g, fin', o, q'⟩ := (FinG.refl r).res (res_dT (Q := fun e => Q e ρ) hp w)
  exact k _ F _ e ρ f g fin' o q'
theorem s_tupT {es : List Expr} {k0 : Nat} {pos : Pos} {cs : Es} (h : PA X es (tEs Φ X W cs)) : PE X (.Tuple es k0 pos) (tE Φ X W (.tupT cs)) := PE.imp (pe_tup h) fun σ H Q' ⟨F, ρ, f, Q, xe, r, x, w, k⟩ => by
  simp only [wpE] at w
  refine ⟨F, ρ, f, _, xe, r, x, w, fun vs F1 H1 as ρ1 f1 g1 fin1 o1 q1 => ?_⟩
  obtain ⟨ds, e1, hz, q⟩ := onO_some q1
  have hd := shV_ok o1 e1
  refine ⟨by rw [hd.length]; exact hz, fun p hp => ?_⟩
  obtain ⟨e, g, fin', o, q'⟩ := fin1.res (res_tupT (Q := fun e => Q e ρ1) hp hd q)
  exact k _ F1 _ e ρ1 f1 g fin' o q'
theorem key_at {K : PySem.W.Frag} {F : Addr → Prop} {H : Hp} {σ : L2.St} {ρ : Rho} {f : List Addr} {j : Nat} {l : List Int} (r : Rep K F H σ ρ f) (h : ρ.at j = some (ownL (.tuple (intsD l)))) : ∃ b, σ[j]? = some (some (.ref b)) ∧ H b = some (.tup ((l.map Sum.inl : List Key).map kV)) := by
  obtain ⟨v, g, h1, h2⟩ := r.get h
  obtain ⟨b, rfl, h3⟩ := ow_key h2
  exact ⟨b, h1, h3⟩
theorem i_din {i j : Nat} (σ : L2.St) (H : Hp) (Q' : VK) : tE Φ X W (.kin false i j) σ H Q' → tDIn (tVar j) (tVar i) σ H Q' := fun ⟨F, ρ, f, Q, xe, r, x, w, k⟩ => by
  simp only [wpE] at w
  obtain ⟨hk, l, e1, e2, q⟩ := w
  obtain ⟨a, qs, k1, k2, k3, _⟩ := r.dct e1
  obtain ⟨b, k4, k5⟩ := key_at r e2
  refine ⟨_, k4, _, k1, a, _, rfl, DGet.t k2 k5, ?_⟩
  rw [valV_hk, ← (k3.get (l := l)).1]
  exact k _ F H (sh (.bool (gK hk l).isSome)) ρ f [] (.refl r) (Ow_sh.mpr ⟨rfl, by simp only [Dv]⟩) (by simpa using q)
theorem i_dnotin {i j : Nat} (σ : L2.St) (H : Hp) (Q' : VK) : tE Φ X W (.kin true i j) σ H Q' → tDNotIn (tVar j) (tVar i) σ H Q' := fun ⟨F, ρ, f, Q, xe, r, x, w, k⟩ => by
  simp only [wpE] at w
  obtain ⟨hk, l, e1, e2, q⟩ := w
  obtain ⟨a, qs, k1, k2, k3, _⟩ := r.dct e1
  obtain ⟨b, k4, k5⟩ := key_at r e2
  refine ⟨_, k4, _, k1, a, _, rfl, DGet.t k2 k5, ?_⟩
  rw [valV_hk, ← (k3.get (l := l)).1]
  exact k _ F H (sh (.bool (!(gK hk l).isSome))) ρ f [] (.refl r) (Ow_sh.mpr ⟨rfl, by simp only [Dv]⟩) (by simpa using q)
theorem s_kin {i j : Nat} {x y : Str} {px py pos : Pos} (hu : X.A.units + 1 < cLine) (h : nameB X.env.scope X.N i x = true) (h2 : nameB X.env.scope X.N j y = true) :
    PE X (.Compare (.Name y py) [.In] [.Name x px] pos) (tE Φ X W (.kin false i j)) ∧ PT X (.Compare (.Name y py) [.In] [.Name x px] pos) (tTst Φ X W (.kin false i j)) :=
  ⟨PE.imp (pe_cmp (pc_din hu (pe_nm h2) (pe_nm h)) rfl) i_din, PT.imp (pt_cmp (pc_din hu (pe_nm h2) (pe_nm h)) rfl) fun _ _ _ z => i_din _ _ _ (tTst_tE z)⟩
theorem s_knin {i j : Nat} {x y : Str} {px py pos : Pos} (hu : X.A.units + 1 < cLine) (h : nameB X.env.scope X.N i x = true) (h2 : nameB X.env.scope X.N j y = true) :
    PE X (.Compare (.Name y py) [.NotIn] [.Name x px] pos) (tE Φ X W (.kin true i j)) ∧ PT X (.Compare (.Name y py) [.NotIn] [.Name x px] pos) (tTst Φ X W (.kin true i j)) :=
  ⟨PE.imp (pe_cmp (pc_dnotin hu (pe_nm h2) (pe_nm h)) rfl) i_dnotin, PT.imp (pt_cmp (pc_dnotin hu (pe_nm h2) (pe_nm h)) rfl) fun _ _ _ z => i_dnotin _ _ _ (tTst_tE z)⟩
theorem s_dix {i j : Nat} {x y : Str} {px py pos : Pos} (hu : X.A.units + 1 < cLine) (h : nameB X.env.scope X.N i x = true) (h2 : nameB X.env.scope X.N j y = true) :
    PE X (.Subscript (.Name x px) (.Name y py) pos) (tE Φ X W (.dix i j)) := by
  refine PE.imp (pe_dget hu (pe_nm h) (pe_nm h2) (fun _ _ => rfl)) fun σ H Q' ⟨F, ρ, f, Q, xe, r, x, w, k⟩ => ?_
  simp only [wpE] at w
  obtain ⟨hk, l, e1, e2, d, e3, q⟩ := w
  obtain ⟨a, qs, k1, k2, k3, _⟩ := r.dct e1
  obtain ⟨b, k4, k5⟩ := key_at r e2
  obtain ⟨v, k6, k7⟩ := (k3.get (l := l)).2 d e3
  refine ⟨_, k1, _, k4, a, v, rfl, ?_, k v F H (sh d) ρ f [] (.refl r) (Ow_sh.mpr ⟨rfl, k7⟩) q⟩
  rw [← k6, ← valV_hk]
  exact DGet.t k2 k5
end
end MS
/-! `sorted` of anything that can be gathered into whole numbers, of any length -/
namespace MS
open PySem PySem.Spec PyProof.Rows L2
/-- what stands in the heap stays -/
def Kpt (a b : Heap) : Prop := ∀ x u, a.get? x = some u → b.get? x = some u
section
variable {prog : Program} {w : World} {A : Around} {E : Value → Shared → Prop} {s : Shared}
theorem sorted_by {x : Value} {ks : List Int} {Q : Value → Shared → Prop} (hk : ks.length ≤ sizeLine)
    (gather : ∀ (R : List Value → Shared → Prop) (E1 : Value → Shared → Prop), (∀ (g : Heap) (t : Nat) (us : List Value), Kpt s.heap g → IntsAre us ks → R us { s with heap := g, toks := t }) → wpAny (model prog w) A.in1 (collect x) R E1 s)
    (fin : ∀ (g g2 : Heap) (t : Nat) (p : Addr) (us : List Value) (ys : List Int) (c : Nat), Kpt s.heap g → Kpt g g2 → g.objs.size ≤ p → g2.get? p = some (seqObj "list" us.toArray c) → IntsAre us ys → ys.Perm ks → ys.Pairwise (· ≤ ·) → Q (.ref p) { s with heap := g2, toks := t }) :
    wpAny (model prog w) A (call (.builtin "sorted") [x]) Q E s := by
  refine Calls.call_function_entry kind_sorted plain_sorted entry_sorted (args_sorted1 x) ?_
  show wpAny _ _ (Builtin.«sorted» _) _ _ _
  rw [Builtin.«sorted»]
  refine wpAny_bind (m := checkCount "sorted" 1 1 _) (wpAny_pure (wpAny_bind (gather _ _ fun g t us kg hu => ?_)))
  have hn : us.length = ks.length := IntsAre.length hu
  have new : (g.push (seqObj "list" us.toArray 0)).get? g.objs.size = some (seqObj "list" us.toArray 0) := Heap.get?_push_size _ rfl
  refine wpAny_bind (wpAny_newList ?_ (by omega))
  refine wpAny_bind (wpAny_holding (wpAny_call_entry slot_list_sort ⟨_, new, rfl⟩ entry_list_sort
    (list_sort_treeAny new hu (by omega) fun out ys h1 h2 h3 => ⟨_, rfl, ?_⟩) (args_list_sort _)))
  obtain ⟨c, hc⟩ := sortedHeap_at (vs := us) (out := out) new
  refine wpAny_pure ⟨_, rfl, fin g _ _ _ out.toList ys c kg (fun b u e => ?_) (Nat.le_refl _) (by rw [Array.toArray_toList]; exact hc) h1 h2 h3⟩
  have lt := Heap.lt_size e
  rw [sortedHeap_old (Nat.ne_of_lt lt) (Nat.lt_of_lt_of_le lt (by rw [size_push']; exact Nat.le_succ _))]
  exact Heap.get?_push_of_some _ e
end
/-- numbers, key by key -/
theorem ints_by {ks : List Int} {us : List Value} (hl : us.length = ks.length) (h : ∀ (i : Nat) (hi : i < us.length) (hj : i < ks.length), ∃ t, us[i] = Value.int ks[i] t) : IntsAre us ks := by
  induction ks generalizing us with
  | nil => cases us with
    | nil => exact .nil
    | cons u us => cases hl
  | cons k ks ih => cases us with
    | nil => cases hl
    | cons u us =>
      obtain ⟨t, e⟩ := h 0 (Nat.succ_pos _) (Nat.succ_pos _)
      have e : u = Value.int k t := e
      rw [e]
      exact .cons _ _ (ih (Nat.succ.inj hl) fun i hi hj => h (i + 1) (Nat.succ_lt_succ hi) (Nat.succ_lt_succ hj))
theorem int_key {k : Key} {n : Int} {v : Value} (hk : k = Sum.inl n) (h : keyIs k v = true) : ∃ t, v = Value.int n t := by
  subst hk
  rcases keyIs_shape h with ⟨i, t, e, ev⟩ | ⟨z, t, e, _⟩
  · cases e; exact ⟨t, ev⟩
  · cases e
variable {X : Cx}
/-- .. of a dict whose keys are whole numbers -/
theorem sorted_keys (calm : X.calm = true) : CallR X (.builtin "sorted") (fun xs H Q => ∃ (a : Addr) (kvs : List (Key × V)) (ks : List Int), xs = [.ref a] ∧ Rd H a (.dK kvs) ∧ kvs.map (·.1) = ks.map Sum.inl ∧
    ∀ (ys : List Int) (p : Addr), ys.Perm ks → ys.Pairwise (· ≤ ·) → H p = none → Q (.ref p) (upd H p (.lst (ys.map V.int)))) := by
  rintro pins s σ H xs us Q I r ⟨a, kvs, ks, rfl, hd, hks, q⟩
  obtain ⟨u, rfl, rx⟩ := vals1 r
  cases rx
  obtain ⟨z, lo, vs, rel, dd⟩ := dk_rd I.hok hd
  obtain ⟨ep, hat⟩ := dd.dictAt
  have e1 : vs.map (·.1) = ks.map Sum.inl := rel.keys.symm.trans hks
  have e2 : vs.length = ks.length := by simpa using congrArg List.length e1
  have e3 : kvs.length = ks.length := by simpa using congrArg List.length hks
  have small : ks.length ≤ sizeLine := e3 ▸ z
  refine sorted_by (ks := ks) small (fun R E1 hR => ?_) fun g g2 t p us ys c kg k2 hp hp2 hu h2 h3 => ?_
  · refine PySem.W.kdu_collect (PySem.W.kdl_dict (knd := mixKind X.prog X.w) (kvs := vs) (ep := ep) lo) (I.ok.hd calm) hat (e2 ▸ small) fun g t acc kg it => ?_
    refine hR g t acc.toList kg (ints_by (by rw [Array.length_toList, it.1, e2]) fun i hi hj => ?_)
    obtain ⟨k, x, c1, c2⟩ := it.2 i acc.toList[i] (by rw [← Array.getElem?_toList]; exact List.getElem?_eq_getElem hi)
    refine int_key (k := k) ?_ c2
    have c3 : (vs.map (·.1))[i]? = some k := by rw [List.getElem?_map, c1]; rfl
    rw [e1, List.getElem?_map, List.getElem?_eq_getElem hj] at c3
    exact (Option.some.inj c3).symm
  · have I1 : Inv X pins σ H { s with heap := g, toks := t } := I.kept kg
    have new : ObjOk X.prog X.w (upd H p (.lst (ys.map V.int))) g2 p (.lst (ys.map V.int)) := ⟨by rw [List.length_map, h2.length_eq]; exact small, us, c, vals_of_ints hu, hp2⟩
    exact ⟨.ref p, _, I1.laid (t' := t) k2 hp new, rfl, q ys p h2 h3 (I1.hok.fresh hp)⟩
end MS
/-! sets of rows, of up to three hundred -/
namespace MS
open PySem PySem.Spec PyProof.Rows L2
/-! ### the table of 512 places: each place is met -/
def trl (m : Nat) : Nat → Nat → List Nat
  | 0, _ => []
  | k + 1, x => x :: trl m k ((x * 5 + 1) % (m + 1))
theorem lcgI_back (m x : Nat) : ∀ k, lcgI m ((x * 5 + 1) % (m + 1)) k = lcgI m x (k + 1)
  | 0 => rfl
  | k + 1 => by
    show (lcgI m ((x * 5 + 1) % (m + 1)) k * 5 + 1) % (m + 1) = (lcgI m x (k + 1) * 5 + 1) % (m + 1)
    rw [lcgI_back m x k]
theorem mem_trl {m j : Nat} : ∀ {n x : Nat}, j ∈ trl m n x → ∃ k, k < n ∧ lcgI m x k = j
  | 0, _, h => by cases h
  | n + 1, x, h => by
    rcases List.mem_cons.mp h with z | z
    · exact ⟨0, Nat.succ_pos _, z.symm⟩
    · obtain ⟨k, hk, e⟩ := mem_trl z
      exact ⟨k + 1, Nat.succ_lt_succ hk, by rw [← lcgI_back]; exact e⟩
def allIn (a b : List Nat) : Bool := a.all fun j => b.contains j
theorem all511 : allIn (List.range 512) (trl 511 512 0) = true := by decide +kernel
theorem end511 : lcgI 511 0 512 = 0 := by decide +kernel
theorem lcgI_add (m x a : Nat) : ∀ k, lcgI m (lcgI m x a) k = lcgI m x (a + k)
  | 0 => rfl
  | k + 1 => by
    show (lcgI m (lcgI m x a) k * 5 + 1) % (m + 1) = (lcgI m x (a + k) * 5 + 1) % (m + 1)
    rw [lcgI_add m x a k]
theorem met511 {i j : Nat} (hi : i ≤ 511) (hj : j ≤ 511) : ∃ k, k ≤ 511 ∧ lcgI 511 i k = j := by
  have each : ∀ y, y ≤ 511 → ∃ k, k < 512 ∧ lcgI 511 0 k = y := fun y hy => by
    have h := List.all_eq_true.mp all511 y (List.mem_range.mpr (by omega))
    exact mem_trl (List.contains_iff_mem.mp h)
  obtain ⟨a, ha, ea⟩ := each i hi
  obtain ⟨b, hb, eb⟩ := each j hj
  rw [← ea]
  by_cases c : a ≤ b
  · exact ⟨b - a, by omega, by rw [lcgI_add, show a + (b - a) = b by omega, eb]⟩
  · refine ⟨512 + b - a, by omega, ?_⟩
    rw [lcgI_add, show a + (512 + b - a) = 512 + b by omega, ← lcgI_add, end511, eb]
/-- the masks that come here -/
def MaskG (m : Nat) : Prop := MaskOk m ∨ m = 511
theorem MaskG.le {m : Nat} (h : MaskG m) : m ≤ 511 := by
  rcases h with (e | e | e) | e <;> omega
theorem MaskG.odd {m : Nat} (h : MaskG m) : m % 2 = 1 := by
  rcases h with (e | e | e) | e <;> subst e <;> rfl
theorem way_met {m : Nat} (hm : MaskG m) (h : Int) {j : Nat} (hj : j ≤ m) : ∃ k, k < 10 * SetTable.turns m ∧ way m h k = j := by
  rcases hm with hm | rfl
  · exact nth_meets hm h hj
  · obtain ⟨c, hc, e⟩ := met511 (runI_le 511 (SetTable.bits h) 12) hj
    rw [← runI_tail (bits_lt h)] at e
    obtain ⟨k, hk, ek⟩ := run_nth 511 (SetTable.bits h) (12 + c)
    refine ⟨k, by unfold SetTable.turns; omega, ?_⟩
    show (nth _ _ k).j = j
    rw [ek, e]; rfl
/-- the first empty place on the way -/
theorem way_free {m : Nat} (hm : MaskG m) {O : List Nat} (few : O.length ≤ m) (h : Int) : ∃ K, K < 10 * SetTable.turns m ∧ way m h K ∉ O ∧ ∀ c, c < K → way m h c ∈ O := by
  obtain ⟨j, hj, no⟩ := st_missing O (m + 1) (by omega)
  obtain ⟨k, hk, e⟩ := way_met hm h (show j ≤ m by omega)
  obtain ⟨K, h1, h2, h3⟩ := st_least (p := fun c => way m h c ∉ O) k (by rw [e]; exact no)
  exact ⟨K, by omega, h2, fun c hc => Classical.not_not.mp (h3 c hc)⟩
theorem way_in (m : Nat) (h : Int) (k : Nat) : way m h k ≤ m := by
  have b : SetTable.bits h % (m + 1) ≤ m := Nat.le_of_lt_succ (Nat.mod_lt _ (Nat.succ_pos m))
  have e := runEnd_bd b
  have q := nth_in k (runAt m (SetTable.bits h % (m + 1)) (SetTable.bits h)) (m := m) (by unfold runAt; dsimp only; omega)
  exact Nat.le_trans (Nat.le_add_right _ _) q
/-! ### the places with what stands there -/
/-- a place, a row's address, the row -/
abbrev Cel := Nat × Addr × List Int
def plc (Z : List Cel) : List Nat := Z.map (·.1)
structure Tab (m : Nat) (hash : List Int → Int) (Z : List Cel) : Prop where
  mok : MaskG m
  ris : Ris (plc Z)
  bd : ∀ z ∈ Z, z.1 ≤ m
  path : ∀ z ∈ Z, ∃ k, way m (hash z.2.2) k = z.1 ∧ ∀ c, c < k → way m (hash z.2.2) c ∈ plc Z
theorem mem_cut {α : Type} {l : List α} {p : Nat} {x y : α} : y ∈ l.take p ++ x :: l.drop p ↔ y = x ∨ y ∈ l := by
  rw [List.mem_append, List.mem_cons]
  constructor
  · rintro (h | h | h)
    · exact .inr (List.mem_of_mem_take h)
    · exact .inl h
    · exact .inr (List.mem_of_mem_drop h)
  · rintro (h | h)
    · exact .inr (.inl h)
    · rw [← List.take_append_drop p l] at h
      rcases List.mem_append.mp h with z | z
      · exact .inl z
      · exact .inr (.inr z)
theorem plc_cut {Z : List Cel} {p : Nat} {x : Cel} : plc (Z.take p ++ x :: Z.drop p) = (plc Z).take p ++ x.1 :: (plc Z).drop p := by
  unfold plc
  rw [List.map_append, List.map_cons, List.map_take, List.map_drop]
theorem Tab.put {m : Nat} {hash : List Int → Int} {Z : List Cel} (T : Tab m hash Z) {K p : Nat} {a : Addr} {k : List Int} (hK : way m (hash k) K ∉ plc Z) (hb : ∀ c, c < K → way m (hash k) c ∈ plc Z)
    (lo : ∀ y ∈ (plc Z).take p, y < way m (hash k) K) (hi : ∀ y ∈ (plc Z).drop p, way m (hash k) K ≤ y) : Tab m hash (Z.take p ++ (way m (hash k) K, a, k) :: Z.drop p) := by
  have grow : ∀ y, y ∈ plc Z → y ∈ plc (Z.take p ++ (way m (hash k) K, a, k) :: Z.drop p) := fun y hy => by rw [plc_cut]; exact mem_cut.mpr (.inr hy)
  refine ⟨T.mok, ?_, fun z hz => ?_, fun z hz => ?_⟩
  · rw [plc_cut]
    have r := T.ris
    unfold Ris at r ⊢
    rw [List.pairwise_append, List.pairwise_cons]
    refine ⟨r.sublist (List.take_sublist _ _), ⟨fun y hy => ?_, r.sublist (List.drop_sublist _ _)⟩, fun x hx y hy => ?_⟩
    · have h1 := hi y hy
      have h2 : way m (hash k) K ≠ y := fun e => hK (by rw [e]; exact List.mem_of_mem_drop hy)
      exact Nat.lt_of_le_of_ne h1 h2
    · have h1 := lo x hx
      rcases List.mem_cons.mp hy with rfl | hy
      · exact h1
      · exact Nat.lt_of_lt_of_le h1 (hi y hy)
  · rcases mem_cut.mp hz with rfl | hz
    · exact way_in _ _ _
    · exact T.bd z hz
  · rcases mem_cut.mp hz with rfl | hz
    · exact ⟨K, rfl, fun c hc => grow _ (hb c hc)⟩
    · obtain ⟨c, h1, h2⟩ := T.path z hz
      exact ⟨c, h1, fun d hd => grow _ (h2 d hd)⟩

section
variable {P : Program} {w : World} {A : Around} {E : Value → Shared → Prop} {s : Shared}
def cellV (P : Program) (w : World) (z : Cel) : Int × Value := (thash P w z.2.2, .ref z.2.1)
/-- the set at an address -/
structure SetG (P : Program) (w : World) (h : Heap) (a : Addr) (Z : List Cel) (es : Array (Int × Value)) (ep : Nat) (t : SetTable) : Prop where
  ob : ∃ o, h.get? a = some o ∧ o.ExactSet ∧ o.data = .set es ep t
  rows : es.toList = Z.map (cellV P w)
  plcs : t.place.toList = plc Z
  dm : t.dummies = #[]
  tab : Tab t.mask (thash P w) Z
  nd : (Z.map (·.2.2)).Nodup
  tup : ∀ z ∈ Z, IsT P w h z.2.2 z.2.1
  plain : t.plain = true
  led : w.params.followText "set-order" = true ∨ t.led = true
  room : Z.length * 5 < t.mask * 3
variable {a : Addr} {Z : List Cel} {es : Array (Int × Value)} {ep : Nat} {t : SetTable}
theorem SetG.len (R : SetG P w s.heap a Z es ep t) : es.size = Z.length := by
  have := congrArg List.length R.rows
  rwa [Array.length_toList, List.length_map] at this
theorem SetG.plen (R : SetG P w s.heap a Z es ep t) : t.place.size = Z.length := by
  have := congrArg List.length R.plcs
  unfold plc at this
  rwa [Array.length_toList, List.length_map] at this
theorem SetG.fit (R : SetG P w s.heap a Z es ep t) : t.fits es.size = true := by
  have h1 := R.plen
  have h2 := R.len
  have h3 := R.room
  simp only [SetTable.fits, SetTable.fill, R.dm, Bool.and_eq_true, beq_iff_eq, decide_eq_true_eq, Array.size_empty]
  omega
theorem SetG.at_ (R : SetG P w s.heap a Z es ep t) {i : Nat} {z : Cel} (h : Z[i]? = some z) : es[i]? = some (cellV P w z) ∧ t.place.toList[i]? = some z.1 := by
  refine ⟨?_, ?_⟩
  · rw [← Array.getElem?_toList, R.rows, List.getElem?_map, h]; rfl
  · rw [R.plcs]
    unfold plc
    rw [List.getElem?_map, h]; rfl
theorem SetG.back (R : SetG P w s.heap a Z es ep t) {i j : Nat} (h : t.place.toList[i]? = some j) : ∃ z, Z[i]? = some z ∧ z.1 = j := by
  rw [R.plcs] at h
  unfold plc at h
  rw [List.getElem?_map] at h
  cases e : Z[i]? with
  | none => rw [e] at h; cases h
  | some z => rw [e] at h; exact ⟨z, rfl, Option.some.inj h⟩
theorem SetG.old (R : SetG P w s.heap a Z es ep t) : ¬ t.gaveWay = true := by
  unfold SetTable.gaveWay
  rw [R.tab.mok.odd]
  decide
abbrev hsh (es : Array (Int × Value)) : Nat → Int := fun i => (es[i]?.map (·.1)).getD 0
/-- a probe from the c-th step of a hash's way -/
abbrev prb (m : Nat) (h : Int) (c : Nat) : SetTable.Probe := nth m (runAt m (SetTable.bits h % (m + 1)) (SetTable.bits h)) c
theorem prb_add (m : Nat) (h : Int) (c q : Nat) : nth m (prb m h c) q = prb m h (c + q) := (nth_add m c _ q).symm
theorem prb_dummy (m : Nat) (h : Int) : ∀ c, (prb m h c).dummy = none
  | 0 => rfl
  | c + 1 => by
    have ih := prb_dummy m h c
    show (nth m _ (c + 1)).dummy = none
    rw [nth_succ]
    unfold adv
    split
    · exact ih
    · exact ih
/-- what a probe tells -/
theorem probe_tells (R : SetG P w s.heap a Z es ep t) {h : Int} {K c : Nat} (far : K < 10 * SetTable.turns t.mask) (hK : way t.mask h K ∉ plc Z) (hb : ∀ d, d < K → way t.mask h d ∈ plc Z) (hc : c ≤ K) :
    (∃ d i z, c ≤ d ∧ d < K ∧ Z[i]? = some z ∧ z.1 = way t.mask h d ∧ thash P w z.2.2 = h ∧ (∀ d', c ≤ d' → d' < d → ∀ y ∈ Z, y.1 = way t.mask h d' → thash P w y.2.2 ≠ h) ∧
      t.probe (hsh es) h (prb t.mask h c) = some (.candidate (way t.mask h d) i (prb t.mask h (d + 1)))) ∨
    ((∀ d, c ≤ d → d < K → ∀ y ∈ Z, y.1 = way t.mask h d → thash P w y.2.2 ≠ h) ∧ t.probe (hsh es) h (prb t.mask h c) = some (.empty (way t.mask h K) none)) := by
  have ofs : ∀ q, (nth t.mask (prb t.mask h c) q).j = way t.mask h (c + q) := fun q => congrArg SetTable.Probe.j (prb_add _ _ _ _)
  have hashes : ∀ (i : Nat) (z : Cel), Z[i]? = some z → hsh es i = thash P w z.2.2 := fun i z hz => by unfold hsh; rw [(R.at_ hz).1]; rfl
  have none_ : ∀ q0, (∀ q i, q < q0 → t.place.toList[i]? = some (nth t.mask (prb t.mask h c) q).j → hsh es i ≠ h) → ∀ d, c ≤ d → d < c + q0 → ∀ y ∈ Z, y.1 = way t.mask h d → thash P w y.2.2 ≠ h := by
    intro q0 hno d h1 h2 y hy ey
    obtain ⟨i, hi⟩ := List.getElem?_of_mem hy
    rw [← hashes i y hi]
    refine hno (d - c) i (by omega) ?_
    rw [ofs, show c + (d - c) = d by omega, ← ey]
    exact (R.at_ hi).2
  have ris : Ris t.place.toList := by rw [R.plcs]; exact R.tab.ris
  rcases go_spec t ris R.dm (hsh es) h (10 * SetTable.turns t.mask) (K - c) (prb t.mask h c) (prb_dummy _ _ _) (by omega)
    (fun q hq => by rw [ofs, R.plcs]; exact hb _ (by omega)) (by rw [ofs, R.plcs, show c + (K - c) = K by omega]; exact hK) with ⟨q, i, h1, h2, h3, h4, h5⟩ | ⟨h4, h5⟩
  · rw [ofs] at h2
    obtain ⟨z, hz, ez⟩ := R.back h2
    refine .inl ⟨c + q, i, z, by omega, by omega, hz, ez, (hashes i z hz).symm.trans h3, none_ q h4, ?_⟩
    rw [ofs, prb_add] at h5
    exact h5
  · refine .inr ⟨fun d d1 d2 => none_ (K - c) h4 d d1 (by omega), ?_⟩
    rw [ofs, show c + (K - c) = K by omega] at h5
    exact h5
/-- the search that adding asks for -/
theorem seek_from (R : SetG P w s.heap a Z es ep t) {x : Addr} {k : List Int} (hx : IsT P w s.heap k x) (hu : A.units < cLine) {K : Nat} (far : K < 10 * SetTable.turns t.mask) (hK : way t.mask (thash P w k) K ∉ plc Z) (hb : ∀ d, d < K → way t.mask (thash P w k) d ∈ plc Z)
    {Q : SetFound → Shared → Prop} (there : k ∈ Z.map (·.2.2) → Q (.there none) s) (free : k ∉ Z.map (·.2.2) → Q (.free (way t.mask (thash P w k) K) false) s) :
    ∀ (f c : Nat) (st : Option SetTable.Probe), st.getD (t.probeStart (thash P w k)) = prb t.mask (thash P w k) c → c ≤ K → K < f + c → (∀ z ∈ Z, z.2.2 = k → ∀ d, d < c → z.1 ≠ way t.mask (thash P w k) d) →
      wpAny (model P w) A (setSearchFrom a (.ref x) (thash P w k) true f st) Q E s := by
  intro f
  induction f with
  | zero => intro c st _ hc hf; omega
  | succ f ih =>
    intro c st hst hc hf past
    obtain ⟨o, ho, hex, hd⟩ := R.ob
    rw [setSearchFrom_succ]
    refine wpAny_bind (wpAny_setState_of ho hd R.fit (wp_if_neg R.old ?_))
    try refine wpAny_bind (wpAny_pure ?_)
    rcases probe_tells R far hK hb hc with ⟨d, i, z, d1, d2, hz, ez, eh, before, tells⟩ | ⟨before, tells⟩
    · rw [hst]
      dsimp only at tells ⊢
      rw [tells]
      have hm := List.mem_of_getElem? hz
      have go : wpAny (model P w) A (searchRest a (.ref x) (thash P w k) true f es t (way t.mask (thash P w k) d) i (prb t.mask (thash P w k) (d + 1))) Q E s := by
        rw [searchRest, (R.at_ hz).1]
        refine wpAny_bind (wpAny_holding (wpAny_eqBool_tuple hu (R.tup z hm) hx (wpAny_bind (wpAny_setState_of ho hd R.fit ?_))))
        by_cases same : z.2.2 = k
        · refine wp_if_pos (by simp [same]) (wpAny_pure (there (List.mem_map.mpr ⟨z, hm, same⟩)))
        · refine wp_if_neg (by simp [same]) ?_
          try refine wpAny_bind (wpAny_pure ?_)
          have live : t.slot (way t.mask (thash P w k) d) = .live i := slot_live (by rw [R.plcs]; exact R.tab.ris) (by rw [(R.at_ hz).2, ez])
          rw [sameMem]
          simp only [if_true, live, (R.at_ hz).1]
          refine wpAny_bind (wpAny_isSame_ref_self (wpAny_bind (wpAny_pure ?_)))
          simp only [if_true]
          refine wp_if_neg (by simp [same]) (ih (d + 1) _ rfl (by omega) (by omega) fun y hy ey d' hd' e' => ?_)
          rcases Nat.lt_or_ge d' c with g | g
          · exact past y hy ey d' g e'
          rcases Nat.lt_or_ge d' d with g2 | g2
          · exact before d' g g2 y hy e' (by rw [ey])
          obtain rfl : d' = d := by omega
          obtain ⟨i2, hi2⟩ := List.getElem?_of_mem hy
          have live2 : t.slot y.1 = .live i2 := slot_live (by rw [R.plcs]; exact R.tab.ris) (R.at_ hi2).2
          rw [e', live] at live2
          injection live2 with e2
          rw [← e2, hz] at hi2
          exact same (by rw [Option.some.inj hi2]; exact ey)
      by_cases hl : t.led = true
      · refine wp_if_neg (by simp [hl]) ?_
        try refine wpAny_bind (wpAny_pure ?_)
        exact go
      · refine wp_if_pos (by simp [hl]) (wpAny_bind (seen_tup hx (fun y hy => ?_) (wp_if_neg (by decide) ?_)))
        · simp only [List.mem_map, Array.mem_toList_iff, Array.mem_filter] at hy
          obtain ⟨e, ⟨he, _⟩, rfl⟩ := hy
          rw [← Array.mem_toList_iff, R.rows] at he
          obtain ⟨y, hy, rfl⟩ := List.mem_map.mp he
          exact ⟨_, _, rfl, R.tup y hy⟩
        · try refine wpAny_bind (wpAny_pure ?_)
          exact go
    · rw [hst]
      dsimp only at tells ⊢
      rw [tells]
      refine wpAny_pure (free fun hm => ?_)
      obtain ⟨z, hz, ez⟩ := List.mem_map.mp hm
      obtain ⟨c', h1, h2⟩ := R.tab.path z hz
      have ez : z.2.2 = k := ez
      rw [ez] at h1 h2
      have inP : z.1 ∈ plc Z := List.mem_map.mpr ⟨z, hz, rfl⟩
      have lt : c' < K := by
        rcases Nat.lt_trichotomy c' K with g | g | g
        · exact g
        · rw [← g, h1] at hK; exact absurd inP hK
        · exact absurd (h2 K g) hK
      by_cases g : c' < c
      · exact past z hz ez c' g h1.symm
      · exact before c' (by omega) lt z hz h1.symm (by rw [ez])
theorem seek (R : SetG P w s.heap a Z es ep t) {x : Addr} {k : List Int} (hx : IsT P w s.heap k x) (hu : A.units < cLine) {Q : SetFound → Shared → Prop} (there : k ∈ Z.map (·.2.2) → Q (.there none) s)
    (free : k ∉ Z.map (·.2.2) → ∀ K, way t.mask (thash P w k) K ∉ plc Z → (∀ d, d < K → way t.mask (thash P w k) d ∈ plc Z) → Q (.free (way t.mask (thash P w k) K) false) s) :
    wpAny (model P w) A (setSearch a (.ref x) (thash P w k) true) Q E s := by
  have room := R.room
  have mle := R.tab.mok.le
  obtain ⟨K, h1, h2, h3⟩ := way_free R.tab.mok (O := plc Z) (by unfold plc; rw [List.length_map]; omega) (thash P w k)
  unfold setSearch
  exact seek_from R hx hu h1 h2 h3 there (fun n => free n K h2 h3) 100000 0 none rfl (Nat.zero_le _) (by unfold SetTable.turns at h1; omega) fun _ _ _ d hd => absurd hd (Nat.not_lt_zero d)
/-! ### adding -/
theorem below_lo (R : SetG P w s.heap a Z es ep t) (j : Nat) : SetTable.below t.place j ≤ Z.length ∧ (∀ y ∈ (plc Z).take (SetTable.below t.place j), y < j) ∧ ∀ y ∈ (plc Z).drop (SetTable.below t.place j), j ≤ y := by
  have ris : Ris t.place.toList := by rw [R.plcs]; exact R.tab.ris
  have c := below_cut ris j
  obtain ⟨c1, c2, c3⟩ := c
  rw [R.plcs] at c2 c3
  rw [R.plen] at c1
  refine ⟨c1, fun y hy => ?_, fun y hy => ?_⟩
  · obtain ⟨i, hi⟩ := List.getElem?_of_mem hy
    rw [List.getElem?_take] at hi
    split at hi
    · rename_i lt
      exact c2 i y hi lt
    · cases hi
  · obtain ⟨i, hi⟩ := List.getElem?_of_mem hy
    rw [List.getElem?_drop] at hi
    exact c3 _ y hi (Nat.le_add_right _ _)
end
/-! ### laying anew -/
theorem turn_met {m : Nat} (hm : MaskG m) (h : Int) {j : Nat} (hj : j ≤ m) : ∃ n, n ≤ m + 12 ∧ runI m (SetTable.bits h) n = j := by
  rcases hm with hm | rfl
  · exact run_meets hm h hj
  · obtain ⟨c, hc, e⟩ := met511 (runI_le 511 (SetTable.bits h) 12) hj
    exact ⟨12 + c, by omega, by rw [runI_tail (bits_lt h), e]⟩
/-- hashes laid one by one: the k-th has the k-th of these places -/
structure Lay (m : Nat) (hs : List Int) (ps : List Nat) (owner : Array (Option Nat)) : Prop where
  sz : owner.size = m + 1
  len : ps.length = hs.length
  bd : ∀ j ∈ ps, j ≤ m
  nd : ps.Nodup
  own : ∀ j, j ≤ m → ∀ k : Nat, oAt owner j = some k ↔ ps[k]? = some j
  path : ∀ (k : Nat) (h : Int) (j : Nat), hs[k]? = some h → ps[k]? = some j → ∃ K, way m h K = j ∧ ∀ d, d < K → way m h d ∈ ps
theorem Lay.occ {m : Nat} {hs : List Int} {ps : List Nat} {owner : Array (Option Nat)} (L : Lay m hs ps owner) {j : Nat} (hj : j ≤ m) : (oAt owner j).isNone = false ↔ j ∈ ps := by
  cases e : oAt owner j with
  | none =>
    refine ⟨fun h => (by cases h), fun h => ?_⟩
    obtain ⟨k, hk⟩ := List.getElem?_of_mem h
    rw [(L.own j hj k).mpr hk] at e
    cases e
  | some k => exact ⟨fun _ => List.mem_of_getElem? ((L.own j hj k).mp e), fun _ => rfl⟩
theorem Lay.free {m : Nat} {hs : List Int} {ps : List Nat} {owner : Array (Option Nat)} (L : Lay m hs ps owner) (hm : MaskG m) (few : ps.length ≤ m) (h : Int) :
    ∃ K, SetTable.layClean.free m owner (SetTable.turns m) (SetTable.bits h % (m + 1)) (SetTable.bits h) = some (way m h K) ∧ way m h K ∉ ps ∧ ∀ d, d < K → way m h d ∈ ps := by
  obtain ⟨j, hj, no⟩ := st_missing ps (m + 1) (by omega)
  obtain ⟨n, hn, e⟩ := turn_met hm h (show j ≤ m by omega)
  have ew : way m h (off m (SetTable.bits h % (m + 1)) (SetTable.bits h) n) = j := by
    unfold way
    rw [nth_off, itL_run, e]; rfl
  obtain ⟨K, h1, h2, h3⟩ := st_least (p := fun d => way m h d ∉ ps) _ (by rw [ew]; exact no)
  have h3 : ∀ d, d < K → way m h d ∈ ps := fun d hd => Classical.not_not.mp (h3 d hd)
  refine ⟨K, free_spec m owner _ n _ _ K (by unfold SetTable.turns; omega) h1 (fun d hd => (L.occ (way_in m h d)).mpr (h3 d hd)) ?_, h2, h3⟩
  cases e2 : (oAt owner (way m h K)).isNone with
  | true => rfl
  | false => exact absurd ((L.occ (way_in m h K)).mp e2) h2
theorem app_get {α : Type} {l : List α} {x y : α} {k : Nat} : (l ++ [x])[k]? = some y ↔ l[k]? = some y ∨ (k = l.length ∧ x = y) := by
  rcases Nat.lt_trichotomy k l.length with g | g | g
  · rw [List.getElem?_append_left g]
    exact ⟨.inl, fun h => h.resolve_right fun z => by omega⟩
  · subst g
    rw [List.getElem?_append_right (Nat.le_refl _), Nat.sub_self, List.getElem?_eq_none (Nat.le_refl _)]
    simp
  · rw [List.getElem?_eq_none (by simp; omega), List.getElem?_eq_none (by omega)]
    refine ⟨fun h => (by cases h), fun h => ?_⟩
    rcases h with h | h
    · cases h
    · omega
theorem Lay.step {m : Nat} {hs : List Int} {ps : List Nat} {owner : Array (Option Nat)} (L : Lay m hs ps owner) {h : Int} {K : Nat} (no : way m h K ∉ ps) (hb : ∀ d, d < K → way m h d ∈ ps) :
    Lay m (hs ++ [h]) (ps ++ [way m h K]) (owner.setIfInBounds (way m h K) (some hs.length)) := by
  have hj := way_in m h K
  refine ⟨by rw [Array.size_setIfInBounds]; exact L.sz, by simp [L.len], fun j hm => ?_, ?_, fun j hjm k => ?_, fun k h' j h1 h2 => ?_⟩
  · rcases List.mem_append.mp hm with z | z
    · exact L.bd j z
    · rw [List.mem_singleton.mp z]; exact hj
  · rw [List.nodup_append]
    refine ⟨L.nd, by simp, fun a ha b hb e => ?_⟩
    rw [List.mem_singleton.mp hb] at e
    exact no (e ▸ ha)
  · rw [app_get]
    by_cases e : j = way m h K
    · rw [e, oAt_set_self _ (by rw [L.sz]; omega)]
      constructor
      · intro z
        exact .inr ⟨by rw [L.len]; exact (Option.some.inj z).symm, rfl⟩
      · rintro (z | ⟨z, _⟩)
        · exact absurd (List.mem_of_getElem? z) no
        · rw [z, L.len]
    · rw [oAt_set_ne _ e, L.own j hjm k]
      exact ⟨.inl, fun z => z.resolve_right fun q => e q.2.symm⟩
  · rcases app_get.mp h1 with z | ⟨z, rfl⟩
    · rcases app_get.mp h2 with y | ⟨y, _⟩
      · obtain ⟨c, c1, c2⟩ := L.path k h' j z y
        exact ⟨c, c1, fun d hd => List.mem_append_left _ (c2 d hd)⟩
      · have := (List.getElem?_eq_some_iff.mp z).1
        rw [L.len] at y
        omega
    · rcases app_get.mp h2 with y | ⟨_, y⟩
      · have := (List.getElem?_eq_some_iff.mp y).1
        rw [L.len] at this
        omega
      · exact ⟨K, y, fun d hd => List.mem_append_left _ (hb d hd)⟩
theorem Lay.all {m : Nat} (hm : MaskG m) : ∀ (more hs : List Int) (ps : List Nat) (owner : Array (Option Nat)), Lay m hs ps owner → hs.length + more.length ≤ m →
    ∃ ps' owner', more.foldl (stepF m) (some (owner, hs.length)) = some (owner', (hs ++ more).length) ∧ Lay m (hs ++ more) ps' owner'
  | [], hs, ps, owner, L, _ => ⟨ps, owner, by simp, by simpa using L⟩
  | h :: more, hs, ps, owner, L, few => by
    rw [List.length_cons] at few
    obtain ⟨K, e, no, hb⟩ := L.free hm (by rw [L.len]; omega) h
    obtain ⟨ps', owner', e2, L2⟩ := Lay.all hm more _ _ _ (L.step no hb) (by rw [List.length_append, List.length_singleton]; omega)
    refine ⟨ps', owner', ?_, by simpa using L2⟩
    rw [List.foldl_cons, stepF_some e]
    simpa using e2
theorem lay_ok {m : Nat} (hm : MaskG m) {hs : Array Int} (few : hs.size ≤ m) : ∃ ps owner, SetTable.layClean m hs = some owner ∧ Lay m hs.toList ps owner := by
  have L0 : Lay m [] [] (Array.replicate (m + 1) none) := by
    refine ⟨by simp, rfl, by simp, by simp, fun j hj k => ?_, by simp⟩
    rw [oAt_init hj]
    simp
  obtain ⟨ps, owner, e, L⟩ := Lay.all hm hs.toList [] [] _ L0 (by rw [Array.length_toList]; simpa using few)
  refine ⟨ps, owner, ?_, by simpa using L⟩
  rw [layClean_eq]
  have e : hs.toList.foldl (stepF m) (some (Array.replicate (m + 1) none, 0)) = _ := e
  rw [e]; rfl
theorem live_mem {m : Nat} {hs : List Int} {ps : List Nat} {owner : Array (Option Nat)} (L : Lay m hs ps owner) {j k : Nat} : (j, k) ∈ liveOf m owner ↔ ps[k]? = some j := by
  rw [mem_live L.sz]
  constructor
  · rintro ⟨h1, h2⟩
    exact (L.own j h1 k).mp h2
  · intro h
    have hj := L.bd j (List.mem_of_getElem? h)
    exact ⟨hj, (L.own j hj k).mpr h⟩
theorem live_ris (m : Nat) (owner : Array (Option Nat)) : Ris ((liveOf m owner).map (·.1)) :=
  (ris_live (fun j => owner.getD j none) (List.range (m + 1)) (by unfold Ris; first | exact List.pairwise_lt_range | exact List.pairwise_lt_range _)).1
theorem live_len {m : Nat} {hs : List Int} {ps : List Nat} {owner : Array (Option Nat)} (L : Lay m hs ps owner) : (liveOf m owner).length = hs.length := by
  have nd : ((liveOf m owner).map (·.1)).Nodup := (live_ris m owner).imp fun h => Nat.ne_of_lt h
  have same : ∀ j, j ∈ (liveOf m owner).map (·.1) ↔ j ∈ ps := fun j => by
    rw [List.mem_map]
    constructor
    · rintro ⟨⟨j', k⟩, h, rfl⟩
      exact List.mem_of_getElem? ((live_mem L).mp h)
    · intro h
      obtain ⟨k, hk⟩ := List.getElem?_of_mem h
      exact ⟨(j, k), (live_mem L).mpr hk, rfl⟩
  have h1 := nat_nodup_len _ ps nd fun j hj => (same j).mp hj
  have h2 := nat_nodup_len ps _ L.nd fun j hj => (same j).mpr hj
  rw [List.length_map] at h1 h2
  rw [← L.len]; omega
section
variable {P : Program} {w : World} {A : Around} {E : Value → Shared → Prop} {s : Shared}
variable {a : Addr} {Z : List Cel} {es : Array (Int × Value)} {ep : Nat} {t : SetTable}
theorem cells_rows (Z : List Cel) : Z.map (cellV P w) = rowsOf P w (Z.map (·.2)) := by
  unfold rowsOf
  rw [List.map_map]; rfl
theorem relayG {o : Obj} (ho : s.heap.get? a = some o) (hex : o.ExactSet) (hd : o.data = .set es ep t) (rows : es.toList = Z.map (cellV P w)) (psz : t.place.size = es.size) (dm : t.dummies = #[]) (fill : es.size ≤ t.mask)
    (nd : (Z.map (·.2.2)).Nodup) (tup : ∀ z ∈ Z, IsT P w s.heap z.2.2 z.2.1) (plain : t.plain = true) (led : w.params.followText "set-order" = true ∨ t.led = true) {wanted M : Nat}
    (hw : SetTable.sizeAbove wanted - 1 = M) (hM : MaskG M) (big : SetTable.sizeAbove wanted ≤ 512) (room : Z.length * 5 < M * 3) {Q : Unit → Shared → Prop}
    (q : ∀ h' Z' es' ep' t', Heap.SameBut a s.heap h' → SetG P w h' a Z' es' ep' t' → (Z'.map (·.2)).Perm (Z.map (·.2)) → Q () { s with heap := h' }) : wpAny (model P w) A (setRelay a wanted) Q E s := by
  have len : es.size = Z.length := by
    have := congrArg List.length rows
    rwa [Array.length_toList, List.length_map] at this
  have fit : t.fits es.size = true := by
    simp only [SetTable.fits, SetTable.fill, dm, Bool.and_eq_true, beq_iff_eq, decide_eq_true_eq, Array.size_empty]
    omega
  obtain ⟨ps, owner, e, L⟩ := lay_ok hM (hs := es.map (·.1)) (by rw [Array.size_map]; omega)
  have ll : (liveOf M owner).length = es.size := (live_len L).trans (by rw [Array.length_toList, Array.size_map])
  have hp : (((liveOf M owner).map (·.2)).toArray).toList.Perm (List.range (Z.map (·.2)).length) := by
    rw [List.length_map, ← len]
    refine perm_range _ _ (by simpa using ll) fun k hk => ?_
    obtain ⟨j, hj⟩ : ∃ j, ps[k]? = some j := ⟨_, List.getElem?_eq_getElem (by rw [L.len, Array.length_toList, Array.size_map]; exact hk)⟩
    exact List.mem_map.mpr ⟨(j, k), (live_mem L).mpr hj, rfl⟩
  obtain ⟨L2, r1, r2, r3⟩ := order_rows (P := P) (w := w) (Z.map (·.2)) es ((liveOf M owner).map (·.2)).toArray (by rw [rows, cells_rows]) hp
  have l2 : L2.length = (liveOf M owner).length := by rw [r2.length_eq, List.length_map, ll, len]
  obtain ⟨Z', hZ⟩ : ∃ Z' : List Cel, Z' = ((liveOf M owner).map (·.1)).zip L2 := ⟨_, rfl⟩
  have hplc : plc Z' = (liveOf M owner).map (·.1) := by
    unfold plc
    rw [hZ]
    exact List.map_fst_zip (by rw [List.length_map]; omega)
  have hcel : Z'.map (·.2) = L2 := by
    rw [hZ]
    exact List.map_snd_zip (by rw [List.length_map]; omega)
  have zlen : Z'.length = Z.length := by rw [hZ, List.length_zip, List.length_map, l2, Nat.min_self, ll, len]
  have cell : ∀ z ∈ Z', ∃ i k : Nat, ps[k]? = some z.1 ∧ L2[i]? = some z.2 ∧ (liveOf M owner)[i]? = some (z.1, k) := fun z hz => by
    obtain ⟨i, hi⟩ := List.getElem?_of_mem hz
    rw [hZ, List.getElem?_zip_eq_some, List.getElem?_map] at hi
    obtain ⟨h1, h2⟩ := hi
    cases e1 : (liveOf M owner)[i]? with
    | none => rw [e1] at h1; cases h1
    | some jk =>
      rw [e1] at h1
      obtain ⟨j, k⟩ := jk
      have ej : j = z.1 := Option.some.inj h1
      have hk := (live_mem L).mp (List.mem_of_getElem? e1)
      subst ej
      exact ⟨i, k, hk, h2, e1⟩
  have inP : ∀ j, j ∈ ps → j ∈ plc Z' := fun j hj => by
    obtain ⟨k, hk⟩ := List.getElem?_of_mem hj
    rw [hplc]
    exact List.mem_map.mpr ⟨(j, k), (live_mem L).mpr hk, rfl⟩
  have tab : Tab M (thash P w) Z' := by
    refine ⟨hM, by rw [hplc]; exact live_ris _ _, fun z hz => ?_, fun z hz => ?_⟩
    · obtain ⟨_, _, hk, _, _⟩ := cell z hz
      exact L.bd _ (List.mem_of_getElem? hk)
    · obtain ⟨i, k, hk, h2, e1⟩ := cell z hz
      have hh : (es.map (·.1)).toList[k]? = some (thash P w z.2.2) := by
        have h3 := congrArg (fun l : List Int => l[i]?) r3
        simp only [List.getElem?_map, h2, e1, Option.map_some, Option.some.injEq] at h3
        have hk2 : k < (es.map (·.1)).size := by
          have := (List.getElem?_eq_some_iff.mp hk).1
          rw [L.len, Array.length_toList] at this
          exact this
        rw [h3, Array.getElem?_toList, Array.getElem?_eq_getElem hk2, Array.getD, dif_pos hk2]
        rfl
      obtain ⟨K, k1, k2⟩ := L.path k _ z.1 hh hk
      exact ⟨K, k1, fun d hd => inP _ (k2 d hd)⟩
  have size2 : (((liveOf M owner).map (·.2)).toArray.filterMap (es[·]?)).size = es.size := by
    have h := congrArg List.length r1
    unfold rowsOf at h
    rw [Array.length_toList, List.length_map, l2, ll] at h
    exact h
  rw [setRelay_eq]
  refine wpAny_bind (wpAny_setState_of ho hd fit ?_)
  refine wp_if_neg (by rw [sizeLine_eq]; omega) ?_
  try refine wpAny_bind (wpAny_pure ?_)
  rw [relaid_eq, hw, e]
  dsimp only [Option.bind]
  refine wpAny_bind (wp_if_neg (by rw [size2]; simp) ?_)
  try refine wpAny_bind (wpAny_pure ?_)
  refine wpAny_pure (wpAny_storeSet_of ho hd ?_ (by rw [size2, len, sizeLine_eq]; have := hM.le; omega))
  have sb : Heap.SameBut a s.heap (s.heap.update a (Obj.putSet (((liveOf M owner).map (·.2)).toArray.filterMap (es[·]?)) (tabOf t M owner))) := Heap.SameBut.update ..
  refine q _ Z' _ (ep + 1) _ sb ⟨⟨_, store_at ho hd, ⟨hex.1, hex.2.1, hex.2.2⟩, rfl⟩, by rw [cells_rows, hcel]; exact r1, hplc.symm, rfl, tab, ?_, fun z hz => ?_, plain, led, by rw [zlen]; exact room⟩ (by rw [hcel]; exact r2)
  · have h1 := (r2.map (·.2)).nodup_iff
    rw [List.map_map, ← hcel, List.map_map] at h1
    exact h1.mpr nd
  · have h1 : z.2 ∈ L2 := by rw [← hcel]; exact List.mem_map.mpr ⟨z, hz, rfl⟩
    obtain ⟨y, hy, ey⟩ := List.mem_map.mp (r2.mem_iff.mp h1)
    have h2 := tup y hy
    rw [ey] at h2
    exact isT_same h2 ho hd sb
theorem grow5 : SetTable.sizeAbove (SetTable.grown 5) = 32 := by decide +kernel
theorem grow19 : SetTable.sizeAbove (SetTable.grown 19) = 128 := by decide +kernel
theorem grow77 : SetTable.sizeAbove (SetTable.grown 77) = 512 := by decide +kernel
/-- adding a row -/
theorem addG (R : SetG P w s.heap a Z es ep t) {x : Addr} {k : List Int} (hx : IsT P w s.heap k x) (hu : A.units < cLine) (few : Z.length ≤ 304) {Q : Bool → Shared → Prop}
    (q : ∀ b h' Z' es' ep' t', Heap.SameBut a s.heap h' → SetG P w h' a Z' es' ep' t' → (k ∈ Z.map (·.2.2) → Z' = Z) → (k ∉ Z.map (·.2.2) → (Z'.map (·.2)).Perm ((x, k) :: Z.map (·.2))) → Q b { s with heap := h' }) :
    wpAny (model P w) A (setAddHashed a (.ref x) (thash P w k)) Q E s := by
  obtain ⟨o, ho, hex, hd⟩ := R.ob
  have len := R.len
  have room := R.room
  unfold setAddHashed
  refine wpAny_holding ?_
  show wpAny _ _ (setAddHashedIn a (.ref x) (thash P w k) (99999 + 1)) _ _ _
  rw [setAddHashedIn_succ]
  refine wpAny_bind (wpAny_setState_of ho hd R.fit (wp_if_neg (by simp [byScan, Value.scannable]) ?_))
  try refine wpAny_bind (wpAny_pure ?_)
  refine wpAny_bind (seek R hx hu (fun hm => ?_) fun hn K hK hb => ?_)
  · exact wpAny_pure (q false s.heap Z es ep t (Heap.SameBut.refl a s.heap) R (fun _ => rfl) fun z => absurd hm z)
  refine wpAny_bind (wpAny_setState_of ho hd R.fit ?_)
  dsimp only
  obtain ⟨b1, b2, b3⟩ := below_lo R (way t.mask (thash P w k) K)
  have hpl := put_place t (way t.mask (thash P w k) K)
  have hdm := put_dm R.dm (way t.mask (thash P w k) K)
  have htab := R.tab.put (a := x) hK hb b2 b3
  obtain ⟨t1, p, ept, emask, eled, eplain⟩ : ∃ t1 p, t.put (way t.mask (thash P w k) K) = (t1, p) ∧ t1.mask = t.mask ∧ t1.led = t.led ∧ t1.plain = t.plain := ⟨_, _, rfl, rfl, rfl, rfl⟩
  have ep2 : SetTable.below t.place (way t.mask (thash P w k) K) = p := congrArg Prod.snd ept
  rw [ep2] at hpl b1 htab
  rw [ept] at hpl hdm ⊢
  dsimp only at hpl hdm ⊢
  rw [R.plcs] at hpl
  refine wp_if_pos (by rw [eplain]; exact R.plain) (wpAny_bind (hashBy_tup hx ?_))
  simp only [if_true]
  obtain ⟨Z1, hZ1⟩ : ∃ Z1 : List Cel, Z1 = Z.take p ++ (way t.mask (thash P w k) K, x, k) :: Z.drop p := ⟨_, rfl⟩
  rw [← hZ1] at htab
  have rows1 : (SetTable.insertAt es p (thash P w k, Value.ref x)).toList = Z1.map (cellV P w) := by
    rw [SetTable.toList_insertAt, R.rows, hZ1, List.map_append, List.map_cons, List.map_take, List.map_drop]; rfl
  have plc1 : t1.place.toList = plc Z1 := by rw [hpl, hZ1, plc_cut]
  have pm : Z1.Perm ((way t.mask (thash P w k) K, x, k) :: Z) := by
    rw [hZ1]
    refine List.perm_middle.trans ?_
    rw [List.take_append_drop]
  have len1 : Z1.length = Z.length + 1 := pm.length_eq
  have size1 : (SetTable.insertAt es p (thash P w k, Value.ref x)).size = Z.length + 1 := by
    have h := congrArg List.length rows1
    rw [Array.length_toList, List.length_map, len1] at h
    exact h
  have psz1 : t1.place.size = Z.length + 1 := by
    have h := congrArg List.length plc1
    unfold plc at h
    rw [Array.length_toList, List.length_map, len1] at h
    exact h
  have nd1 : (Z1.map (·.2.2)).Nodup := by
    rw [(pm.map (·.2.2)).nodup_iff, List.map_cons]
    exact List.nodup_cons.mpr ⟨hn, R.nd⟩
  generalize SetTable.insertAt es p (thash P w k, Value.ref x) = es1 at rows1 size1 ⊢
  refine wpAny_bind (wpAny_storeSet_of ho hd ?_ (by rw [size1, sizeLine_eq]; omega))
  have sb : Heap.SameBut a s.heap (s.heap.update a (Obj.putSet es1 t1)) := Heap.SameBut.update ..
  have ho1 := store_at (es' := es1) (t' := t1) ho hd
  generalize s.heap.update a (Obj.putSet es1 t1) = h1 at sb ho1 ⊢
  have tup1 : ∀ z ∈ Z1, IsT P w h1 z.2.2 z.2.1 := fun z hz => by
    rcases List.mem_cons.mp (pm.mem_iff.mp hz) with e | hz
    · rw [e]; exact isT_same hx ho hd sb
    · exact isT_same (R.tup z hz) ho hd sb
  have pm2 : (Z1.map (·.2)).Perm ((x, k) :: Z.map (·.2)) := pm.map (·.2)
  have plain1 : t1.plain = true := by rw [eplain]; exact R.plain
  have led1 : w.params.followText "set-order" = true ∨ t1.led = true := by rw [eled]; exact R.led
  have fullIff : t1.tooFull = true ↔ t.mask * 3 ≤ (Z.length + 1) * 5 := by
    unfold SetTable.tooFull SetTable.fill
    rw [hdm, psz1, emask, decide_eq_true_eq]
    simp
  by_cases hf : t1.tooFull = true
  · have full := fullIff.mp hf
    rw [len]
    have anew : ∀ M, SetTable.sizeAbove (SetTable.grown (Z.length + 1)) - 1 = M → MaskG M → SetTable.sizeAbove (SetTable.grown (Z.length + 1)) ≤ 512 → Z.length + 1 ≤ t.mask → (Z.length + 1) * 5 < M * 3 →
        wpAny (model P w) A (setRelay a (SetTable.grown (Z.length + 1))) (fun _ s' => wpAny (model P w) A (pure true) Q E s') E { s with heap := h1 } := fun M m1 m2 m3 m4 m5 => by
      refine relayG (s := { s with heap := h1 }) ho1 ⟨hex.1, hex.2.1, hex.2.2⟩ rfl rows1 (by rw [psz1, size1]) hdm (by rw [size1, emask]; exact m4) nd1 tup1 plain1 led1 m1 m2 m3 (by rw [len1]; exact m5) ?_
      intro h2 Z2 es2 ep2 t2 sb2 R2 pm3
      exact wpAny_pure (q true h2 Z2 es2 ep2 t2 (sb.trans sb2) R2 (fun z => absurd z hn) fun _ => pm3.trans pm2)
    refine wp_if_pos (by simp [hf]) (wpAny_bind ?_)
    rcases R.tab.mok with (e | e | e) | e
    · have l4 : Z.length = 4 := by rw [e] at full room; omega
      exact anew 31 (by rw [l4, grow5]) (.inl (.inr (.inl rfl))) (by rw [l4, grow5]; decide) (by omega) (by omega)
    · have l18 : Z.length = 18 := by rw [e] at full room; omega
      exact anew 127 (by rw [l18, grow19]) (.inl (.inr (.inr rfl))) (by rw [l18, grow19]; decide) (by omega) (by omega)
    · have l76 : Z.length = 76 := by rw [e] at full room; omega
      exact anew 511 (by rw [l76, grow77]) (.inr rfl) (by rw [l76, grow77]; exact Nat.le_refl _) (by omega) (by omega)
    · rw [e] at full; omega
  · have notf : ¬ t.mask * 3 ≤ (Z.length + 1) * 5 := fun z => hf (fullIff.mpr z)
    refine wp_if_neg (by simp [hf]) (wpAny_pure ?_)
    refine q true h1 Z1 es1 (ep + 1) t1 sb ⟨⟨_, ho1, ⟨hex.1, hex.2.1, hex.2.2⟩, rfl⟩, rows1, plc1, hdm, by rw [emask]; exact htab, nd1, tup1, plain1, led1, by rw [emask, len1]; omega⟩ (fun z => absurd z hn) fun _ => pm2
theorem SetG.keep {h h' : Heap} (R : SetG P w h a Z es ep t) (ha : ∀ o, h.get? a = some o → h'.get? a = some o) (ht : ∀ z ∈ Z, IsT P w h' z.2.2 z.2.1) : SetG P w h' a Z es ep t := by
  obtain ⟨o, ho, hex, hd⟩ := R.ob
  exact ⟨⟨o, ha o ho, hex, hd⟩, R.rows, R.plcs, R.dm, R.tab, R.nd, ht, R.plain, R.led, R.room⟩
/-- the first of the rows are in -/
def RowsIn (P : Program) (w : World) (h : Heap) (S : Addr) (ks : List (Addr × List Int)) (i : Nat) : Prop :=
  ∃ Z es ep t, SetG P w h S Z es ep t ∧ (∀ z ∈ Z, z.2 ∈ ks) ∧ ∀ r, r ∈ Z.map (·.2.2) ↔ r ∈ (ks.take i).map (·.2)
theorem rows_loop {I : Addr} {fp wr : List Addr} {G : Array GenState → Array GenState → Prop} {n : Nat} {Pv : Nat → Value → Prop} {St : Nat → Shared → Prop} {R : Result → Shared → Prop}
    (W : WalksS P w A.in1 I fp wr G n Pv St) (S : Addr) (apart : S ∉ fp) (ks : List (Addr × List Int)) (hn : n = ks.length) (few : ks.length ≤ 305) (val : ∀ i v, Pv i v → ∃ p, ks[i]? = some p ∧ v = .ref p.1)
    (h0 : Heap) (tups : ∀ p ∈ ks, IsT P w h0 p.2 p.1) (new : h0.get? S = none) (fresh : ∀ b ∈ wr, h0.get? b = none) (hu : A.in1.units < cLine) :
    ∀ (d i : Nat) (s : Shared), i + d = n → St i s → Kpt h0 s.heap → RowsIn P w s.heap S ks i →
      (∀ s', Moved (S :: wr) G s s' → RowsIn P w s'.heap S ks n → Kpt h0 s'.heap → R (.ok (.ret .none)) s') →
      codeAny (model P w) A (.builtin "set.update.loop" ⟨[.ref S, .ref I], []⟩) R s := by
  have notw : S ∉ wr := fun h => apart (W.sub _ h)
  have more : ∀ b ∈ wr, b ∈ S :: wr := fun b hb => .tail _ hb
  have kept : ∀ {a b : Shared}, Moved wr G a b → Kpt h0 a.heap → Kpt h0 b.heap := fun hm hk x u e => hm.heap x u (fun hx => by rw [fresh x hx] at e; cases e) (hk x u e)
  intro d
  induction d with
  | zero =>
    intro i s hi st kp ⟨Z, es, ep, t, hS, h1, h2⟩ fin
    have hi : i = n := hi
    subst hi
    refine codeAny_builtin F.entry_set_update_loop ?_
    rw [Around.under_plainId F.plain_set_update_loop _]
    refine wpAny_bind (W.done s _ _ st fun s' hm => ?_)
    have kp' := kept hm kp
    exact wpAny_pure (fin s' (hm.mono more) ⟨Z, es, ep, t, hS.keep (fun o e => hm.heap S o notw e) fun z hz => isT_keep (tups _ (h1 z hz)) kp', h1, h2⟩ kp')
  | succ d ih =>
    intro i s hi st kp ⟨Z, es, ep, t, hS, h1, h2⟩ fin
    refine codeAny_builtin F.entry_set_update_loop ?_
    rw [Around.under_plainId F.plain_set_update_loop _]
    refine wpAny_bind (W.item i s _ _ (by omega) st fun v s' hP st' hm => ?_)
    obtain ⟨p, hp, rfl⟩ := val i v hP
    have kp' := kept hm kp
    have hS' : SetG P w s'.heap S Z es ep t := hS.keep (fun o e => hm.heap S o notw e) fun z hz => isT_keep (tups _ (h1 z hz)) kp'
    have hx : IsT P w s'.heap p.2 p.1 := isT_keep (tups p (List.mem_of_getElem? hp)) kp'
    have cnt : Z.length ≤ 304 := by
      have := List.Nodup.length_le_of_subset hS.nd (l₂ := (ks.take i).map (·.2)) fun r hr => (h2 r).mp hr
      rw [List.length_map, List.length_map, List.length_take] at this
      omega
    have tk : ks.take (i + 1) = ks.take i ++ [p] := by rw [List.take_succ, hp]; rfl
    show wpAny _ A.in1 (holding [Value.ref p.1] (setAdd S (.ref p.1)) >>= _) _ _ s'
    refine wpAny_bind (wpAny_holding ?_)
    unfold setAdd
    refine wpAny_holding (wpAny_bind (wpAny_pyHash_tuple hu hx ?_))
    refine addG (s := { s' with toks := s'.toks + (p.2.length + 1) }) hS' hx hu cnt fun b g Z' es' ep' t' sb hS2 c1 c2 => ?_
    have kp2 : Kpt h0 g := fun x u e => (sb.2 x (fun z => by rw [z, new] at e; cases e)).trans (kp' x u e)
    have now : RowsIn P w g S ks (i + 1) := by
      refine ⟨Z', es', ep', t', hS2, ?_, fun r => ?_⟩
      all_goals
        rcases Classical.em (p.2 ∈ Z.map (·.2.2)) with c | c
      · rw [c1 c]; exact h1
      · intro z hz
        have h3 : z.2 ∈ (p.1, p.2) :: Z.map (·.2) := (c2 c).mem_iff.mp (List.mem_map.mpr ⟨z, hz, rfl⟩)
        rcases List.mem_cons.mp h3 with e | e
        · rw [e]; exact List.mem_of_getElem? hp
        · obtain ⟨y, hy, ey⟩ := List.mem_map.mp e
          rw [← ey]; exact h1 y hy
      · rw [c1 c, h2 r, tk, List.map_append, List.mem_append]
        refine ⟨.inl, fun h => h.elim id fun h => ?_⟩
        have : r = p.2 := by simpa using h
        rw [this]; exact (h2 _).mp c
      · have h3 := ((c2 c).map (·.2)).mem_iff (a := r)
        rw [List.map_map, List.map_cons, List.map_map] at h3
        have h4 : r ∈ Z'.map (·.2.2) ↔ r = p.2 ∨ r ∈ Z.map (·.2.2) := h3.trans List.mem_cons
        rw [h4, h2 r, tk, List.map_append, List.mem_append]
        simp only [List.map_cons, List.map_nil, List.mem_singleton]
        exact Or.comm
    refine wpAny_pure ⟨plainId_quiet F.plain_set_update_loop _, ih (i + 1) _ (by omega) (W.frame _ s' _ _ st' (Nat.le_add_right _ _) fun b hb o e => ?_) kp2 now fun s'' hm2 in2 kp3 => ?_⟩
    · rw [sb.2 b (fun z => apart (z ▸ hb))]; exact e
    · refine fin s'' (Moved.trans W.gtrans ((hm.mono more).then_heap (Nat.le_add_right _ _) fun b o hb e => ?_) hm2) in2 kp3
      rw [sb.2 b (fun z => hb (z ▸ .head _))]; exact e
/-- the set that all rows are in -/
def RowsDone (P : Program) (w : World) (s : Shared) (ks : List (Addr × List Int)) (t : Shared) : Prop :=
  ∃ (g : Heap) (k : Nat), t = { s with heap := g, toks := k } ∧ RowsIn P w g s.heap.objs.size ks ks.length ∧ Kpt s.heap g
theorem setG_new {h : Heap} {a : Addr} (ho : h.get? a = some (emS w)) : SetG P w h a [] #[] 0 (.fresh 0 0 (!w.params.followText "set-order")) := by
  refine ⟨⟨_, ho, ⟨rfl, rfl, rfl⟩, rfl⟩, rfl, rfl, rfl, ⟨.inl (.inl rfl), List.Pairwise.nil, by simp, by simp⟩, List.nodup_nil, by simp, rfl, ?_, by show 0 * 5 < 7 * 3; decide⟩
  show _ ∨ (!w.params.followText "set-order") = true
  cases w.params.followText "set-order"
  · exact .inr rfl
  · exact .inl rfl
theorem no_at {h : Heap} {b : Addr} (hb : h.objs.size ≤ b) : h.get? b = none := by
  cases e : h.get? b with
  | none => rfl
  | some u => exact absurd (Heap.lt_size e) (Nat.not_lt.mpr hb)
theorem rows_fill {l : Addr} {items : Array Value} {ks : List (Addr × List Int)} (calm : A.handled = none) (il : s.heap.IsList l items) (hi : items.toList = ks.map fun p => Value.ref p.1) (tups : ∀ p ∈ ks, IsT P w s.heap p.2 p.1) (few : ks.length ≤ 305) (hu : A.units + 2 < cLine) :
    codeAny (model P w) A (.call (.builtin "set.__init__") ⟨[.ref s.heap.objs.size, .ref l], []⟩) (wants (fun r t => r = .none ∧ RowsDone P w s ks t) E) (begun w s) := by
  have eS : (begun w s).heap.get? s.heap.objs.size = some (emS w) := Heap.get?_push_size _ rfl
  have hT : Shared.TypeIs (begun w s) (.ref s.heap.objs.size) "set" := ⟨_, eS, rfl⟩
  have e2 : items.size = ks.length := by
    have := congrArg List.length hi
    rwa [Array.length_toList, List.length_map] at this
  refine codeAny_call_builtin F.called_set.init.plain F.entry_set_init (check_set_init_1 hT ?_)
  have il0 : (begun w s).heap.IsList l items := il.push _
  obtain ⟨⟨cls, dct, dat, slt⟩, at_, rfl, ep, rfl⟩ := il
  have at0 : (begun w s).heap.get? l = some { cls := .type "list", dict := dct, data := .seq items ep, slots := slt } := Heap.get?_push_of_some _ at_
  have q1 := F.sub_list_set
  have q2 := F.sub_list_frozenset
  have q3 : (Value.type "list" == Value.type "dict") = false := by decide
  unfold Builtin.«set.__init__» noKeywords Builtin.Frozenset.updateFrom
  generalize hp : pyIter = walker
  wp_walk
  subst hp
  refine wpAny_pyIter_list il0 (wpAny_bind (wpAny_runValue ?_))
  have lt : l < s.heap.objs.size := Heap.lt_size at_
  have sz : (begun w s).heap.objs.size = s.heap.objs.size + 1 := Heap.size_push ..
  have ne : l ≠ (begun w s).heap.objs.size := fun z => Nat.ne_of_lt (Nat.lt_succ_of_lt lt) (z.trans sz)
  have out : s.heap.objs.size ∉ [(begun w s).heap.objs.size, l] := by
    intro z
    rcases List.mem_cons.mp z with z | z
    · exact Nat.ne_of_lt (Nat.lt_succ_self _) (z.trans sz)
    · exact Nat.ne_of_gt lt (List.mem_singleton.mp z)
  have each : ∀ (i : Nat) (v : Value), items[i]? = some v → ∃ p, ks[i]? = some p ∧ v = .ref p.1 := fun i v e => by
    rw [← Array.getElem?_toList, hi, List.getElem?_map] at e
    cases h : ks[i]? with
    | none => rw [h] at e; cases e
    | some p => rw [h] at e; exact ⟨p, rfl, (Option.some.inj e).symm⟩
  have it := Heap.get?_push_size (begun w s).heap (o := { cls := .type "list_iterator", data := .fields #[.ref l, .int 0 0] }) rfl
  have st := Heap.get?_push_of_some { cls := .type "list_iterator", data := .fields #[.ref l, .int 0 0] } eS
  refine rows_loop ((Walks.list (by simp [calm]) _ l ne items).toS) s.heap.objs.size out ks e2 few each s.heap tups ?_ ?_ ?_ items.size 0 _ (Nat.zero_add _) ⟨⟨_, it, rfl, rfl⟩, il0.push _⟩ ?_ ⟨[], _, _, _, setG_new st, by simp, by simp⟩ ?_
  · exact no_at (Nat.le_refl _)
  · intro b hb
    rw [List.mem_singleton.mp hb]
    exact no_at (Nat.le_of_lt (Nat.lt_of_lt_of_eq (Nat.lt_succ_self _) sz.symm))
  · exact hu
  · exact fun b u e => Heap.get?_push_of_some _ (Heap.get?_push_of_some _ e)
  rintro ⟨g, gs, dr, tk, os⟩ mv hin kp
  obtain rfl : gs = s.gens := mv.gens
  obtain rfl : dr = s.drawn := mv.drawn
  obtain rfl : os = s.os := mv.os
  refine wpAny_pure ?_
  show wpAny _ _ (ret Value.none) _ _ _
  exact wpAny_pure ⟨rfl, g, tk, rfl, e2 ▸ hin, kp⟩
/-- set(l) of a list of rows -/
theorem set_of_rows {l : Addr} {items : Array Value} {ks : List (Addr × List Int)} {Q : Value → Shared → Prop} (calm : A.handled = none) (il : s.heap.IsList l items) (hi : items.toList = ks.map fun p => Value.ref p.1) (tups : ∀ p ∈ ks, IsT P w s.heap p.2 p.1) (few : ks.length ≤ 305) (hu : A.units + 3 < cLine)
    (fin : ∀ t, RowsDone P w s ks t → Q (.ref s.heap.objs.size) t) : wpAny (model P w) A (call (.type "set") [.ref l]) Q E s :=
  set_made (rows_fill (show A.in1.handled = none by simp [calm]) il hi tups few (by show A.in1.units + 2 < cLine; exact hu)) fin
end
end MS
namespace MS
open PySem PySem.Spec PyProof.Rows L2
/-! ### dicts with whole numbers as keys -/
theorem gI_nil {α : Type} {l : Int} : gI ([] : List (Int × α)) l = none := rfl
theorem gI_pos {α : Type} {p : Int × α} {r : List (Int × α)} {l : Int} (e : p.1 = l) : gI (p :: r) l = some p.2 := by simp [gI, List.find?_cons, e]
theorem gI_neg {α : Type} {p : Int × α} {r : List (Int × α)} {l : Int} (e : ¬ p.1 = l) : gI (p :: r) l = gI r l := by simp [gI, List.find?_cons, e]
theorem gI_any {α : Type} (l : Int) : ∀ hk : List (Int × α), (hk.any fun z => decide (z.1 = l)) = (gI hk l).isSome
  | [] => rfl
  | p :: r => by
    rw [List.any_cons]
    by_cases e : p.1 = l
    · rw [gI_pos e]; simp [e]
    · rw [gI_neg e, decide_eq_false e, Bool.false_or]; exact gI_any l r
abbrev hiV (hk : List (Int × V)) : List (Key × V) := hk.map fun p => (.inl p.1, p.2)
theorem valV_hi (l : Int) : ∀ hk : List (Int × V), valV (hiV hk) (.inl l) = gI hk l
  | [] => rfl
  | p :: r => by
    show valV ((.inl p.1, p.2) :: hiV r) (.inl l) = _
    by_cases e : p.1 = l
    · rw [gI_pos e, valV_pos (p := ((.inl p.1 : Key), p.2)) (by rw [e])]
    · rw [gI_neg e, valV_neg (p := ((.inl p.1 : Key), p.2)) (fun z => e (by cases z; rfl))]; exact valV_hi l r
theorem putK_hi (l : Int) (v : V) (hk : List (Int × V)) : putK (hiV hk) (.inl l) v = hiV (pI hk l v) := by
  unfold putK pI
  rw [valV_any, valV_hi, gI_any]
  by_cases h : (gI hk l).isSome = true
  · rw [if_pos h, if_pos h]
    simp only [hiV, List.map_map]
    refine List.map_congr_left fun p _ => ?_
    simp only [Function.comp]
    by_cases e : p.1 = l
    · rw [if_pos e, if_pos (by rw [e])]
    · rw [if_neg e, if_neg fun z => e (by cases z; rfl)]
  · rw [if_neg h, if_neg h]
    simp [hiV]
section
variable {K : PySem.W.Frag} {F : Addr → Prop} {H : Hp}
/-- the pairs stand for the pairs -/
def IP (K : PySem.W.Frag) (F : Addr → Prop) (H : Hp) : List (Int × D) → List (Int × V) → Prop
  | [], [] => True
  | p :: ps, q :: qs => p.1 = q.1 ∧ Dv K F H p.2 q.2 ∧ IP K F H ps qs
  | _, _ => False
theorem IP.length : ∀ {ps : List (Int × D)} {qs : List (Int × V)}, IP K F H ps qs → qs.length = ps.length
  | [], [], _ => rfl
  | p :: ps, q :: qs, h => by simp [IP.length h.2.2]
  | [], _ :: _, h => h.elim
  | _ :: _, [], h => h.elim
theorem IP.keys : ∀ {ps : List (Int × D)} {qs : List (Int × V)}, IP K F H ps qs → ps.map (fun p => PyData.int p.1) = qs.map (fun p => PyData.int p.1)
  | [], [], _ => rfl
  | p :: ps, q :: qs, h => by rw [List.map_cons, List.map_cons, IP.keys h.2.2, h.1]
  | [], _ :: _, h => h.elim
  | _ :: _, [], h => h.elim
theorem IP.dvk : ∀ {ps : List (Int × D)} {qs : List (Int × V)}, IP K F H ps qs → DvK K F H (ps.map fun p => (.int p.1, p.2)) (qs.map (·.2))
  | [], [], _ => by simp only [List.map_nil, DvK]
  | p :: ps, q :: qs, h => by
    exact DvK_cons.mpr ⟨_, _, rfl, h.2.1, IP.dvk h.2.2⟩
  | [], _ :: _, h => h.elim
  | _ :: _, [], h => h.elim
theorem IP.mk : ∀ {ps : List (Int × D)} {qs : List (Int × V)}, ps.map (fun p => PyData.int p.1) = qs.map (fun p => PyData.int p.1) → DvK K F H (ps.map fun p => (.int p.1, p.2)) (qs.map (·.2)) → IP K F H ps qs
  | [], [], _, _ => trivial
  | p :: ps, q :: qs, h, k => by
    simp only [List.map_cons, List.cons.injEq, PyData.int.injEq] at h
    obtain ⟨x, xr, e, k1, k2⟩ := DvK_cons.mp k
    simp only [List.map_cons, List.cons.injEq] at e
    obtain ⟨rfl, rfl⟩ := e
    exact ⟨h.1, k1, IP.mk h.2 k2⟩
  | [], _ :: _, h, _ => by simp at h
  | _ :: _, [], h, _ => by simp at h
theorem IP.get {l : Int} : ∀ {ps : List (Int × D)} {qs : List (Int × V)}, IP K F H ps qs → (gI ps l).isSome = (gI qs l).isSome ∧ ∀ d, gI ps l = some d → ∃ v, gI qs l = some v ∧ Dv K F H d v
  | [], [], _ => ⟨rfl, fun d h => by simp [gI_nil] at h⟩
  | p :: ps, q :: qs, h => by
    by_cases e : p.1 = l
    · have e2 : q.1 = l := h.1 ▸ e
      rw [gI_pos e, gI_pos e2]
      exact ⟨rfl, fun d z => ⟨_, rfl, by cases z; exact h.2.1⟩⟩
    · have e2 : ¬ q.1 = l := h.1 ▸ e
      rw [gI_neg e, gI_neg e2]
      exact IP.get h.2.2
  | [], _ :: _, h => h.elim
  | _ :: _, [], h => h.elim
theorem IP.repl {l : Int} {d : D} {v : V} (o : Dv K F H d v) : ∀ {ps : List (Int × D)} {qs : List (Int × V)}, IP K F H ps qs → IP K F H (ps.map fun z => if z.1 = l then (z.1, d) else z) (qs.map fun z => if z.1 = l then (z.1, v) else z)
  | [], [], _ => trivial
  | p :: ps, q :: qs, h => by
    rw [List.map_cons, List.map_cons]
    have ih := IP.repl (l := l) o h.2.2
    by_cases e : p.1 = l
    · have e2 : q.1 = l := h.1 ▸ e
      rw [if_pos e, if_pos e2]
      exact ⟨h.1, o, ih⟩
    · have e2 : ¬ q.1 = l := h.1 ▸ e
      rw [if_neg e, if_neg e2]
      exact ⟨h.1, h.2.1, ih⟩
  | [], _ :: _, h => h.elim
  | _ :: _, [], h => h.elim
theorem IP.snoc {l : Int} {d : D} {v : V} (o : Dv K F H d v) : ∀ {ps : List (Int × D)} {qs : List (Int × V)}, IP K F H ps qs → IP K F H (ps ++ [(l, d)]) (qs ++ [(l, v)])
  | [], [], _ => ⟨rfl, o, trivial⟩
  | p :: ps, q :: qs, h => ⟨h.1, h.2.1, IP.snoc o h.2.2⟩
  | [], _ :: _, h => h.elim
  | _ :: _, [], h => h.elim
theorem IP.put {l : Int} {d : D} {v : V} {ps : List (Int × D)} {qs : List (Int × V)} (o : Dv K F H d v) (h : IP K F H ps qs) : IP K F H (pI ps l d) (pI qs l v) := by
  unfold pI
  rw [gI_any, gI_any, (h.get (l := l)).1]
  by_cases e : (gI qs l).isSome = true
  · rw [if_pos e, if_pos e]; exact h.repl o
  · rw [if_neg e, if_neg e]; exact h.snoc o
theorem IP.chg {F' : Addr → Prop} {H' : Hp} {A : List Addr} (c : Chg F H F' H' A) (off : ∀ a ∈ A, ¬ F a) (lst : ∀ a ∈ A, Mu H a) : ∀ {ps : List (Int × D)} {qs : List (Int × V)}, IP K F H ps qs → IP K F' H' ps qs
  | [], [], _ => trivial
  | p :: ps, q :: qs, h => ⟨h.1, Dv.chg c off lst _ _ h.2.1, IP.chg c off lst h.2.2⟩
  | [], _ :: _, h => h.elim
  | _ :: _, [], h => h.elim
theorem dcAt_dI {a : Addr} {hk : List (Int × D)} {xs : List V} (h : DcAt H a (hk.map fun p => (.int p.1, p.2)) xs) (k : DvK K F H (hk.map fun p => (.int p.1, p.2)) xs) : ∃ qs, H a = some (.dK (hiV qs)) ∧ xs = qs.map (·.2) ∧ IP K F H hk qs := by
  rcases h with ⟨qs, h1, e, rfl⟩ | ⟨qs, _, e, _⟩
  · refine ⟨qs, h1, rfl, IP.mk ?_ k⟩
    rw [List.map_map] at e
    exact e
  · cases hk with
    | nil => simp at e
    | cons q r => simp at e
theorem ow_dI {hk : List (Int × D)} {v : V} {f : List Addr} : Ow K F H (dI hk) (.own .sh) v f ↔ ∃ a qs, v = .ref a ∧ f = [a] ∧ H a = some (.dK (hiV qs)) ∧ IP K F H hk qs := by
  unfold dI
  rw [Ow_dict]
  constructor
  · rintro ⟨a, xs, g, rfl, h1, rfl, h2, _⟩
    obtain ⟨eg, h4⟩ := OwK_sh.mp h2
    subst eg
    obtain ⟨qs, k1, _, k2⟩ := dcAt_dI h1 h4
    exact ⟨a, qs, rfl, rfl, k1, k2⟩
  · rintro ⟨a, qs, rfl, rfl, h1, h2⟩
    refine ⟨a, qs.map (·.2), [], rfl, .inl ⟨qs, h1, ?_, rfl⟩, rfl, OwK_sh.mpr ⟨rfl, h2.dvk⟩, trivial⟩
    simp only [List.map_map]
    exact h2.keys
theorem dv_dI {hk : List (Int × D)} {v : V} (h : Dv K F H (dI hk) v) : ∃ a qs, v = .ref a ∧ F a ∧ H a = some (.dK (hiV qs)) ∧ IP K F H hk qs := by
  unfold dI at h
  simp only [Dv] at h
  rcases h with h | ⟨a, xs, rfl, hf, h1, h2⟩
  · exfalso
    rcases h with ⟨c, a, C, _, _, _, h | ⟨i, dd, _, e, _⟩⟩ | ⟨f, a, _, e, _⟩
    · obtain ⟨e, _⟩ := h
      unfold excKv at e
      cases hk <;> simp at e
    · unfold excKv at e
      cases hk <;> simp at e
    · unfold fnKv at e
      cases hk <;> simp at e
  · obtain ⟨qs, k1, _, k2⟩ := dcAt_dI h1 h2
    exact ⟨a, qs, rfl, hf, k1, k2⟩
theorem res_dI {Q : Ety → Prop} {p : Addr} {hk : List (Int × D)} {qs : List (Int × V)} (hp : H p = none) (h : IP K F H hk qs) (q : Q (ownL (dI hk))) : Res K F H Q (.ref p) (upd H p (.dK (hiV qs))) :=
  ⟨ownL (dI hk), [p], chg_new hp, ow_dI.mpr ⟨p, qs, rfl, rfl, upd_same, h.chg (chg_new hp) (by simp) (by simp)⟩, by simpa using hp, by simp, q⟩
/-- a dict of a name is read -/
theorem Rep.dcr {σ : L2.St} {ρ : Rho} {f : List Addr} {i : Nat} {hk : List (Int × D)} (r : Rep K F H σ ρ f) (h : ρ.at i = some (ownL (dI hk)) ∨ ρ.at i = some (sh (dI hk))) :
    ∃ a qs, σ[i]? = some (some (.ref a)) ∧ H a = some (.dK (hiV qs)) ∧ IP K F H hk qs := by
  rcases h with h | h
  · obtain ⟨v, g, h1, h2⟩ := r.get h
    obtain ⟨a, qs, rfl, _, h3, h4⟩ := ow_dI.mp h2
    exact ⟨a, qs, h1, h3, h4⟩
  · obtain ⟨v, g, h1, h2⟩ := r.get h
    obtain ⟨a, qs, rfl, _, h3, h4⟩ := dv_dI (Ow_sh.mp h2).2
    exact ⟨a, qs, h1, h3, h4⟩
/-- .. and changed in place -/
theorem Rep.dci {σ : L2.St} {ρ : Rho} {f : List Addr} {i : Nat} {hk : List (Int × D)} (r : Rep K F H σ ρ f) (h : ρ.at i = some (ownL (dI hk))) :
    ∃ a qs, σ[i]? = some (some (.ref a)) ∧ H a = some (.dK (hiV qs)) ∧ IP K F H hk qs ∧
      ∀ (hk' : List (Int × D)) (qs' : List (Int × V)), IP K F H hk' qs' →
        ∃ f', (∀ x ∈ f', x ∈ f) ∧ Chg F H F (upd H a (.dK (hiV qs'))) f ∧ Rep K F (upd H a (.dK (hiV qs'))) σ (ρ.set i (some (ownL (dI hk')))) f' := by
  obtain ⟨o, ga, f0, h1, pp, ⟨v, rfl, s⟩, r0⟩ := r.out (at_some h)
  obtain ⟨a, qs, rfl, rfl, h2, h3⟩ := ow_dI.mp s
  have nd := pp.nodup_iff.mp r.nd
  obtain ⟨n1, n2, n3⟩ := List.nodup_append.mp nd
  have hi : i < ρ.length := (List.getElem?_eq_some_iff.mp (at_some h)).1
  have ha : a ∈ f := pp.mem_iff.mpr (by simp)
  refine ⟨a, qs, h1, h2, h3, fun hk' qs' h4 => ?_⟩
  have c : Chg F H F (upd H a (.dK (hiV qs'))) [a] := chg_upd (by rw [h2]; simp)
  have offa : ∀ x ∈ [a], ¬ F x := fun x hx => (show x = a by simpa using hx) ▸ r.off a ha
  have lsta : ∀ x ∈ [a], Mu H x := fun x hx => (show x = a by simpa using hx) ▸ ⟨.k _, h2⟩
  have nf0 : a ∉ f0 := fun z => n3 a (by simp) a z rfl
  have r1 : Rep K F (upd H a (.dK (hiV qs'))) σ (ρ.set i none) f0 := ⟨r0.sl.chg c offa lsta fun x hx z => nf0 ((show x = a by simpa using z) ▸ hx), r0.nd, r0.off, fun x hx => c.dom x (r0.there x hx)⟩
  have ow : Ow K F (upd H a (.dK (hiV qs'))) (dI hk') (.own .sh) (.ref a) [a] := ow_dI.mpr ⟨a, qs', rfl, rfl, upd_same, h4.chg c offa lsta⟩
  obtain ⟨f', p', r2⟩ := r1.inn (i := i) (o := some (.ref a)) (e := some (ownL (dI hk'))) (g := [a]) (by simp [hi]) ⟨_, rfl, ow⟩ nd offa
  rw [set_idem, set_self h1] at r2
  exact ⟨f', fun x hx => pp.mem_iff.mpr (p'.mem_iff.mp hx), c.weak fun x hx => (show x = a by simpa using hx) ▸ ha, r2⟩
theorem IP.drop {l : Int} : ∀ {ps : List (Int × D)} {qs : List (Int × V)}, IP K F H ps qs → IP K F H (dropI ps l) (dropI qs l)
  | [], [], _ => trivial
  | p :: ps, q :: qs, h => by
    have ih := IP.drop (l := l) h.2.2
    unfold dropI at ih ⊢
    by_cases e : p.1 = l
    · have e2 : q.1 = l := h.1 ▸ e
      rw [List.filter_cons_of_neg (by simp [e]), List.filter_cons_of_neg (by simp [e2])]
      exact ih
    · have e2 : ¬ q.1 = l := h.1 ▸ e
      rw [List.filter_cons_of_pos (by simp [e]), List.filter_cons_of_pos (by simp [e2])]
      exact ⟨h.1, h.2.1, ih⟩
  | [], _ :: _, h => h.elim
  | _ :: _, [], h => h.elim
theorem dropK_hi (l : Int) (hk : List (Int × V)) : dropK (hiV hk) (.inl l) = hiV (dropI hk l) := by
  unfold dropK dropI hiV
  rw [List.filter_map]
  congr 1
  refine List.filter_congr fun p _ => ?_
  simp [Function.comp]
end
section
variable {Φ : String → Spec} {X : Cx} {W : WX} {z z2 : E}
theorem onDI_some {ρ : Rho} {i : Nat} {f : List (Int × D) → Prop} (h : onDI ρ i f) : ∃ hk, (ρ.at i = some (ownL (dI hk)) ∨ ρ.at i = some (sh (dI hk))) ∧ f hk := h
theorem isInt_some' {e : Ety} {f : Int → Prop} (h : isInt e f) : ∃ i, e.d = .int i ∧ f i := by
  obtain ⟨p, d⟩ := e
  cases d <;> first | exact h.elim | exact ⟨_, rfl, h⟩
theorem s_dnewI {pos : Pos} : PE X (.Dict [] [] pos) (tE Φ X W (.dop .newI z z2)) := PE.imp pe_dnewK fun σ H Q' ⟨F, ρ, f, Q, xe, r, x, w, k⟩ => by
  simp only [wpE, dW] at w
  intro p hp
  obtain ⟨e, g, fin', o, q'⟩ := (FinG.refl r).res (res_dI (Q := fun e => Q e ρ) (hk := []) (qs := []) hp trivial w)
  exact k _ F _ e ρ f g fin' o q'
theorem s_dgt {i : Nat} {k : E} {x : Str} {e : Expr} {px pos : Pos} (hu : X.A.units + 1 < cLine) (h : nameB X.env.scope X.N i x = true) (he : PE X e (tE Φ X W k)) (hs : NoSl e) :
    PE X (.Subscript (.Name x px) e pos) (tE Φ X W (.dop (.dgt i) k z)) := by
  refine PE.imp (pe_dget hu (pe_nm h) he hs) fun σ H Q' ⟨F, ρ, f, Q, xe, r, x, w, k⟩ => ?_
  simp only [wpE, dW] at w
  obtain ⟨hk, e1, w⟩ := w
  obtain ⟨a, qs, k1, k2, k3⟩ := r.dcr e1
  refine ⟨_, k1, F, ρ, f, _, xe, r, x, w, fun u F1 H1 e2 ρ1 f1 g1 fin o q => ?_⟩
  obtain ⟨n, hn, hk1, e3, d, e4, q⟩ := isInt_some' q
  obtain ⟨a1, qs1, n1, n2, n3⟩ := fin.rep.dcr e3
  have ea : a1 = a := by rw [k1] at n1; simpa using n1.symm
  subst ea
  obtain ⟨v, n4, n5⟩ := (n3.get (l := n)).2 d e4
  have eu := int_of o hn
  subst eu
  refine ⟨a1, v, rfl, ?_, k v F1 H1 (sh d) ρ1 f1 [] fin.drop (Ow_sh.mpr ⟨rfl, n5⟩) q⟩
  rw [← n4, ← valV_hi]
  exact DGet.k (k := .inl n) n2
theorem i_dinI {i : Nat} {k : E} {n : Bool} (σ : L2.St) (H : Hp) (Q' : VK) : tE Φ X W (.dop (.din n i) k z) σ H Q' → tE Φ X W k σ H fun y H1 => tVar i σ H1 fun x H2 => ∃ a o, x = .ref a ∧ DGet H2 a y o ∧ Q' (.bl (Bool.xor n o.isSome)) H2 := fun ⟨F, ρ, f, Q, xe, r, x, w, k⟩ => by
  simp only [wpE, dW] at w
  refine ⟨F, ρ, f, _, xe, r, x, w, fun u F1 H1 e2 ρ1 f1 g1 fin o q => ?_⟩
  obtain ⟨n, hn, hk1, e3, q⟩ := isInt_some' q
  obtain ⟨a1, qs1, n1, n2, n3⟩ := fin.rep.dcr e3
  have eu := int_of o hn
  subst eu
  refine ⟨_, n1, a1, _, rfl, DGet.k (k := .inl n) n2, ?_⟩
  rw [valV_hi, ← (n3.get (l := n)).1]
  exact k _ F1 H1 (sh (.bool _)) ρ1 f1 [] fin.drop (Ow_sh.mpr ⟨rfl, by simp only [Dv]⟩) q
theorem s_din {i : Nat} {k : E} {x : Str} {e : Expr} {px pos : Pos} (hu : X.A.units + 1 < cLine) (h : nameB X.env.scope X.N i x = true) (he : PE X e (tE Φ X W k)) :
    PE X (.Compare e [.In] [.Name x px] pos) (tE Φ X W (.dop (.din false i) k z)) ∧ PT X (.Compare e [.In] [.Name x px] pos) (tTst Φ X W (.dop (.din false i) k z)) := by
  have im : ∀ (σ : L2.St) (H : Hp) (Q' : VK), tE Φ X W (.dop (.din false i) k z) σ H Q' → tDIn (tE Φ X W k) (tVar i) σ H Q' := fun σ H Q' z => by
    have := i_dinI σ H Q' z
    simp only [Bool.false_xor] at this
    exact this
  exact ⟨PE.imp (pe_cmp (pc_din hu he (pe_nm h)) rfl) im, PT.imp (pt_cmp (pc_din hu he (pe_nm h)) rfl) fun _ _ _ zz => im _ _ _ (tTst_tE zz)⟩
theorem s_dnin {i : Nat} {k : E} {x : Str} {e : Expr} {px pos : Pos} (hu : X.A.units + 1 < cLine) (h : nameB X.env.scope X.N i x = true) (he : PE X e (tE Φ X W k)) :
    PE X (.Compare e [.NotIn] [.Name x px] pos) (tE Φ X W (.dop (.din true i) k z)) ∧ PT X (.Compare e [.NotIn] [.Name x px] pos) (tTst Φ X W (.dop (.din true i) k z)) := by
  have im : ∀ (σ : L2.St) (H : Hp) (Q' : VK), tE Φ X W (.dop (.din true i) k z) σ H Q' → tDNotIn (tE Φ X W k) (tVar i) σ H Q' := fun σ H Q' z => by
    have := i_dinI σ H Q' z
    simp only [Bool.true_xor] at this
    exact this
  exact ⟨PE.imp (pe_cmp (pc_dnotin hu he (pe_nm h)) rfl) im, PT.imp (pt_cmp (pc_dnotin hu he (pe_nm h)) rfl) fun _ _ _ zz => im _ _ _ (tTst_tE zz)⟩
theorem s_dcpy {i : Nat} {x y : Str} {p p2 pos : Pos} (hy : y = Str.ofString "dict") (hg : Gl X y) (hm : X.mg y = none) (h : nameB X.env.scope X.N i x = true) : PE X (.Call (.Name y p2) [.Name x p] [] pos) (tE Φ X W (.dop (.dcpy i) z z2)) := by
  subst hy
  refine PE.imp (pe_callTy call_dictD hg hm (by decide +kernel) (pa_cons (pe_nm h) pa_nil)) fun σ H Q' ⟨F, ρ, f, Q, xe, r, xo, w, k⟩ => ?_
  simp only [wpE, dW] at w
  obtain ⟨hk, e1, q⟩ := w
  obtain ⟨a, qs, k1, k2, k3⟩ := r.dcr e1
  refine ⟨_, k1, a, _, rfl, .of k2, fun p hp => ?_⟩
  obtain ⟨e, g, fin', o, q'⟩ := (FinG.refl r).res (res_dI (Q := fun e => Q e ρ) hp k3 q)
  exact k _ F _ e ρ f g fin' o q'
theorem s_dsrt {i : Nat} {x y : Str} {p p2 pos : Pos} (hc : X.calm = true) (hy : y = Str.ofString "sorted") (hg : Gl X y) (hm : X.mg y = none) (h : nameB X.env.scope X.N i x = true) : PE X (.Call (.Name y p2) [.Name x p] [] pos) (tE Φ X W (.dop (.dsrt i) z z2)) := by
  subst hy
  refine PE.imp (pe_callB (sorted_keys hc) hg hm (by decide +kernel) (pa_cons (pe_nm h) pa_nil)) fun σ H Q' ⟨F, ρ, f, Q, xe, r, xo, w, k⟩ => ?_
  simp only [wpE, dW] at w
  obtain ⟨hk, e1, q⟩ := w
  obtain ⟨a, qs, k1, k2, k3⟩ := r.dcr e1
  have ek : hk.map (·.1) = qs.map (·.1) := by
    have := k3.keys
    have h2 := congrArg (List.map fun d : D => match d with | .int i => i | _ => 0) this
    rw [List.map_map, List.map_map] at h2
    exact h2
  refine ⟨_, k1, a, _, qs.map (·.1), rfl, .of k2, by simp [hiV], fun ys p h1 h2 hp => ?_⟩
  obtain ⟨e, g, fin', o, q'⟩ := (FinG.refl r).res (res_lst (Q := fun e => Q e ρ) hp (dvA_ints ys) (q ys (by rw [ek]; exact h1) h2))
  exact k _ F _ e ρ f g fin' o q'
theorem s_dpop {i : Nat} {k : E} {x m : Str} {p ap cp : Pos} {e : Expr} (h : nameB X.env.scope X.N i x = true) (hm : m = Str.ofString "pop") (hl : (ap.endLine == cp.line) = true) (he : PE X e (tE Φ X W k)) (hs : starEach [e] X.env = [(false, eval e X.env)]) :
    PE X (.Call (.Attribute (.Name x p) m ap) [e] [] cp) (tE Φ X W (.dop (.dpop i) k z)) := by
  subst hm
  refine PE.imp (pe_dpop1 (pe_nm h) he ⟨rfl, by rw [hs]; rfl, hl, by rw [hs]; rfl⟩) fun σ H Q' ⟨F, ρ, f, Q, xe, r, x, w, k⟩ => ?_
  simp only [wpE, dW] at w
  obtain ⟨hk, e1, w⟩ := w
  obtain ⟨a, qs, k1, k2, k3⟩ := r.dcr (.inl e1)
  refine ⟨_, k1, a, rfl, .inl ⟨_, .of k2⟩, F, ρ, f, _, xe, r, x, w, fun u F1 H1 e2 ρ1 f1 g1 fin o q => ?_⟩
  obtain ⟨n, hn, hk1, e3, d, e4, q⟩ := isInt_some' q
  obtain ⟨a1, qs1, n1, n2, n3, n4⟩ := fin.rep.dci e3
  have ea : a1 = a := by rw [k1] at n1; simpa using n1.symm
  subst ea
  obtain ⟨v, n5, n6⟩ := (n3.get (l := n)).2 d e4
  have eu := int_of o hn
  subst eu
  obtain ⟨f', s1, c, r'⟩ := n4 (dropI hk1 n) (dropI qs1 n) n3.drop
  refine ⟨_, .inl n, v, n2, rfl, by rw [valV_hi]; exact n5, ?_⟩
  rw [dropK_hi]
  have fin1 := fin.drop
  refine k v F1 _ (sh d) _ f' [] ⟨r', by simpa using r'.nd, by simp, fun x hx => ?_, by simp, fin1.chg.trans c fin1.sub'⟩ (Ow_sh.mpr ⟨rfl, Dv.chg c fin.rep.off fin.rep.lst _ _ n6⟩) q
  exact fin1.sub' x (s1 x (by simpa using hx))
theorem s_dnew1 {k e : E} {ek ev : Expr} {pos : Pos} (hk : PE X ek (tE Φ X W k)) (hv : PE X ev (tE Φ X W e)) : PE X (.Dict [some ek] [ev] pos) (tE Φ X W (.dop .new1 k e)) := by
  refine PE.imp (pe_disp (pps_cons hk hv pps_nil) rfl rfl (by simp) (by simp)) fun σ H Q' ⟨F, ρ, f, Q, xe, r, xo, w, K⟩ => ?_
  simp only [wpE, dW] at w
  intro p hp
  have c1 : Chg F H F (upd H p (.dK [])) [] := chg_new hp
  have r1 := r.new c1 fun z hz => c1.dom z (r.there z hz)
  have fin0 : FinG X.K F H σ f F (upd H p (.dK [])) ρ f [] := ⟨r1, by simpa using r.nd, by simp, fun z hz => .inl (by simpa using hz), by simp, c1.weak (by simp)⟩
  refine ⟨F, ρ, f, _, xe, r1, xo.fin fin0, w, fun u F1 H1 e1 ρ1 f1 g1 fin o q => ?_⟩
  obtain ⟨n, hn, q⟩ := isInt_some' q
  have eu := int_of o hn
  subst eu
  refine ⟨F1, ρ1, f1, _, xe, fin.rep, (xo.fin fin0).fin fin, q, fun v F2 H2 e2 ρ2 f2 g2 fin2 o2 q2 => ?_⟩
  obtain ⟨hp2, q2⟩ := q2
  obtain ⟨p2, d2⟩ := e2
  have hp2 : p2 = .sh := hp2
  subst hp2
  obtain ⟨rfl, od⟩ := Ow_sh.mp o2
  have ft := fin.drop.trans fin2
  have npf : p ∉ f := fun z => r.ne z hp
  have hpF : ¬ F p := fun z => r.there _ z hp
  have nF1 : ¬ F1 p := fun z => by
    rcases fin.chg.new _ z with y | y | y
    · exact hpF y
    · exact npf y
    · rw [upd_same] at y; cases y
  have nf1 : p ∉ f1 := fun z => by
    rcases fin.sub' _ z with y | y
    · exact npf y
    · rw [upd_same] at y; cases y
  have h1p : H1 p = some (.dK []) := fin.chg.keep _ _ upd_same npf
  have h2p : H2 p = some (.dK []) := fin2.chg.keep _ _ h1p nf1
  have nf2 : p ∉ f2 := fun z => by
    rcases fin2.sub' _ z with y | y
    · exact nf1 y
    · rw [h1p] at y; cases y
  have nF2 : ¬ F2 p := fun z => by
    rcases fin2.chg.new _ z with y | y | y
    · exact nF1 y
    · exact nf1 y
    · rw [h1p] at y; cases y
  refine ⟨h2p, [(.inl n, v)], rfl, by simp, ?_⟩
  have cu : Chg F2 H2 F2 (upd H2 p (.dK (hiV [(n, v)]))) [p] := chg_upd (by rw [h2p]; simp)
  have offp : ∀ x ∈ [p], ¬ F2 x := fun x hx => (show x = p by simpa using hx) ▸ nF2
  have lstp : ∀ x ∈ [p], Mu H2 x := fun x hx => (show x = p by simpa using hx) ▸ ⟨.k _, h2p⟩
  have r3 : Rep X.K F2 (upd H2 p (.dK (hiV [(n, v)]))) σ ρ2 f2 := ⟨fin2.rep.sl.chg cu offp lstp fun x hx z => nf2 ((show x = p by simpa using z) ▸ hx), fin2.rep.nd, fin2.rep.off, fun x hx => cu.dom x (fin2.rep.there x hx)⟩
  have ow : Ow X.K F2 (upd H2 p (.dK (hiV [(n, v)]))) (dI [(n, d2)]) (.own .sh) (.ref p) [p] := ow_dI.mpr ⟨p, [(n, v)], rfl, rfl, upd_same, rfl, Dv.chg cu offp lstp _ _ od, trivial⟩
  have f0 := (fin0.trans' fin.drop).trans' fin2
  show Q' (.ref p) (upd H2 p (.dK (hiV [(n, v)])))
  refine K (.ref p) F2 _ (ownL (dI [(n, d2)])) ρ2 f2 [p] ⟨r3, List.nodup_cons.mpr ⟨nf2, r3.nd⟩, offp, fun x hx => ?_, fun x hx => ?_, ?_⟩ ow q2
  · rcases List.mem_cons.mp hx with z | z
    · rw [z]; exact .inr hp
    · exact f0.sub' x z
  · have : x = p := by simpa using hx
    rw [this]; exact ⟨.k _, upd_same⟩
  · exact f0.chg.trans cu fun b hb => by
      have : b = p := by simpa using hb
      rw [this]; exact .inr hp
end
/-! ### equal dicts, their lengths; how many numbers of a list differ -/
theorem IP.len {K : PySem.W.Frag} {F : Addr → Prop} {H : Hp} {hk : List (Int × D)} {qs : List (Int × V)} (h : IP K F H hk qs) : qs.length = hk.length := h.length
section
variable {K : PySem.W.Frag} {F : Addr → Prop} {H : Hp}
theorem Dv.dpS {d : D} {v : V} (h : Dv K F H d v) (s : SeqAt.shaped d = true) : Dp K H v d := Ow.dp (F := F) d .sh v [] (SeqAt.canLay_of_shaped s) (Ow_sh.mpr ⟨rfl, h⟩)
theorem at_of_nodup {kb : List (Key × Value)} (nd : (kb.map (·.1)).Nodup) : ∀ e ∈ kb, valueAt kb e.1 = some e.2 := by
  intro e he
  unfold valueAt
  induction kb with
  | nil => simp at he
  | cons p r ih =>
    rw [List.map_cons, List.nodup_cons] at nd
    rcases List.mem_cons.mp he with rfl | he
    · simp
    · have ne : p.1 ≠ e.1 := fun z => nd.1 (z ▸ List.mem_map_of_mem he)
      rw [List.find?_cons, decide_eq_false ne]
      exact ih nd.2 he
theorem hits_of {X : Cx} {pins : List (Addr × Obj)} {σ : L2.St} {s : Shared} (hu : X.A.units + 65 < cLine) (I : Inv X pins σ H s) {kb : List (Key × Value)} : ∀ {hk : List (Int × D)} {q1 q2 : List (Int × V)} {v1 v2 : List (Key × Value)},
    IP X.K F H hk q1 → IP X.K F H hk q2 → KV (hiV q1) v1 → KV (hiV q2) v2 → (∀ p ∈ hk, SeqAt.shaped p.2 = true ∧ PyData.eqv p.2 p.2 = true) → (∀ e ∈ v2, valueAt kb e.1 = some e.2) → PySem.W.KeqHits X.A.in1 s kb v1 true
  | [], [], [], v1, v2, _, _, k1, _, _, _ => by cases k1; exact .nil
  | p :: hk, x :: q1, y :: q2, v1, v2, h1, h2, k1, k2, hs, hv => by
    cases k1 with
    | @cons _ u1 _ r1 e1 t1 =>
      cases k2 with
      | @cons _ u2 _ r2 e2 t2 =>
        obtain ⟨a1, b1⟩ := e1
        obtain ⟨a2, b2⟩ := e2
        obtain ⟨s1, s2⟩ := hs p (by simp)
        obtain ⟨as, ra⟩ := Dp.reads I p.2 x.2 u1.2 (h1.2.1.dpS s1) b1
        obtain ⟨bs, rb⟩ := Dp.reads I p.2 y.2 u2.2 (h2.2.1.dpS s1) b2
        have ek : u1.1 = u2.1 := by rw [← a1, ← a2]; show (Sum.inl x.1 : Key) = .inl y.1; rw [← h1.1, ← h2.1]
        have eq : SeqAt.EqAt X.A.in1 s u1.2 u2.2 (PyData.eqv p.2 p.2) := PySem.W.keq_at ra rb s1 s1 (show X.A.units + 1 + 64 < cLine by omega)
        have hit := hv u2 (by simp)
        rw [← ek] at hit
        have tl := hits_of hu I h1.2.2 h2.2.2 t1 t2 (fun q hq => hs q (List.mem_cons_of_mem _ hq)) fun e he => hv e (List.mem_cons_of_mem _ he)
        obtain ⟨k0, w0⟩ := u1
        rw [s2] at eq
        exact PySem.W.KeqHits.hit hit eq tl
  | [], _ :: _, _, _, _, h, _, _, _, _, _ => h.elim
  | [], [], _ :: _, _, _, _, h, _, _, _, _ => h.elim
  | _ :: _, [], _, _, _, h, _, _, _, _, _ => h.elim
  | _ :: _, _ :: _, [], _, _, _, h, _, _, _, _ => h.elim
def rDeq (K : PySem.W.Frag) (n : Bool) : R2 := fun x y H Q => ∃ (F : Addr → Prop) (hk : List (Int × D)) (a b : Addr) (q1 q2 : List (Int × V)), x = .ref a ∧ y = .ref b ∧ H a = some (.dK (hiV q1)) ∧ H b = some (.dK (hiV q2)) ∧ IP K F H hk q1 ∧ IP K F H hk q2 ∧
  (∀ p ∈ hk, SeqAt.shaped p.2 = true ∧ PyData.eqv p.2 p.2 = true) ∧ Q (.bl (!n)) H
theorem op_deq {X : Cx} (hu : X.A.units + 65 < cLine) : OpR X (compareOp .Eq) (rDeq X.K false) ∧ OpR X (compareOp .NotEq) (rDeq X.K true) := by
  have key : ∀ (pins : List (Addr × Obj)) (s : Shared) (σ : L2.St) (H : Hp) (F : Addr → Prop) (hk : List (Int × D)) (a b : Addr) (q1 q2 : List (Int × V)), Inv X pins σ H s → H a = some (.dK (hiV q1)) → H b = some (.dK (hiV q2)) → IP X.K F H hk q1 → IP X.K F H hk q2 → (∀ p ∈ hk, SeqAt.shaped p.2 = true ∧ PyData.eqv p.2 p.2 = true) →
      (a == sysModules) = false ∧ (b == sysModules) = false ∧ ∃ v1 v2, s.heap.DictOf (mixKind X.prog X.w) a v1 ∧ s.heap.DictOf (mixKind X.prog X.w) b v2 ∧ (v1.length == v2.length) = true ∧ PySem.W.KeqHits X.A.in1 s v2 v1 true := by
    intro pins s σ H F hk a b q1 q2 I h1 h2 i1 i2 hs
    obtain ⟨_, l1, v1, k1, d1⟩ := dk_of I.hok h1
    obtain ⟨_, l2, v2, k2, d2⟩ := dk_of I.hok h2
    have nd : (v2.map (·.1)).Nodup := by
      obtain ⟨_, _, _, _, _, _, _, _, nd⟩ := d2
      exact nd
    refine ⟨l1, l2, v1, v2, d1, d2, ?_, hits_of hu I i1 i2 k1 k2 hs (at_of_nodup nd)⟩
    have e1 := k1.length
    have e2 := k2.length
    simp only [hiV, List.length_map] at e1 e2
    rw [beq_iff_eq, ← e1, ← e2, i1.length, i2.length]
  constructor
  · intro pins s σ H x y v u Q I rx ry h
    obtain ⟨F, hk, a, b, q1, q2, rfl, rfl, h1, h2, i1, i2, hs, q⟩ := h
    cases rx; cases ry
    obtain ⟨l1, l2, v1, v2, d1, d2, hl, hh⟩ := key pins s σ H F hk a b q1 q2 I h1 h2 i1 i2 hs
    exact PySem.W.keq_eq l1 l2 d1 d2 (by omega) (fun _ => hh) (by rw [hl]; exact ⟨.bl true, H, I, rfl, q⟩)
  · intro pins s σ H x y v u Q I rx ry h
    obtain ⟨F, hk, a, b, q1, q2, rfl, rfl, h1, h2, i1, i2, hs, q⟩ := h
    cases rx; cases ry
    obtain ⟨l1, l2, v1, v2, d1, d2, hl, hh⟩ := key pins s σ H F hk a b q1 q2 I h1 h2 i1 i2 hs
    exact PySem.W.keq_ne l1 l2 d1 d2 (by omega) (fun _ => hh) (by rw [hl]; exact ⟨.bl false, H, I, rfl, q⟩)
end
section
variable {Φ : String → Spec} {X : Cx} {W : WX} {z z2 : E}
theorem i_deq {i j : Nat} {n : Bool} (σ : L2.St) (H : Hp) (Q' : VK) : tE Φ X W (.dop (.deq n i j) z z2) σ H Q' → tVar i σ H fun x H1 => tVar j σ H1 fun y H2 => rDeq X.K n x y H2 Q' := fun ⟨F, ρ, f, Q, xe, r, x, w, k⟩ => by
  simp only [wpE, dW] at w
  obtain ⟨hk, e1, e2, hs, q⟩ := w
  obtain ⟨a, q1, k1, k2, k3⟩ := r.dcr e1
  obtain ⟨b, q2, j1, j2, j3⟩ := r.dcr e2
  exact ⟨_, k1, _, j1, F, hk, a, b, q1, q2, rfl, rfl, k2, j2, k3, j3, hs, k _ F H (sh (.bool _)) ρ f [] (.refl r) (Ow_sh.mpr ⟨rfl, by simp only [Dv]⟩) q⟩
theorem s_deq {i j : Nat} {x y : Str} {px py pos : Pos} (hu : X.A.units + 65 < cLine) (h : nameB X.env.scope X.N i x = true) (h2 : nameB X.env.scope X.N j y = true) :
    (PE X (.Compare (.Name x px) [.Eq] [.Name y py] pos) (tE Φ X W (.dop (.deq false i j) z z2)) ∧ PT X (.Compare (.Name x px) [.Eq] [.Name y py] pos) (tTst Φ X W (.dop (.deq false i j) z z2))) ∧
    (PE X (.Compare (.Name x px) [.NotEq] [.Name y py] pos) (tE Φ X W (.dop (.deq true i j) z z2)) ∧ PT X (.Compare (.Name x px) [.NotEq] [.Name y py] pos) (tTst Φ X W (.dop (.deq true i j) z z2))) :=
  ⟨⟨PE.imp (pe_cmpR (op_deq hu).1 (pe_nm h) (pe_nm h2) rfl) i_deq, PT.imp (pt_cmpR (op_deq hu).1 (pe_nm h) (pe_nm h2) rfl) fun _ _ _ zz => i_deq _ _ _ (tTst_tE zz)⟩,
   ⟨PE.imp (pe_cmpR (op_deq hu).2 (pe_nm h) (pe_nm h2) rfl) i_deq, PT.imp (pt_cmpR (op_deq hu).2 (pe_nm h) (pe_nm h2) rfl) fun _ _ _ zz => i_deq _ _ _ (tTst_tE zz)⟩⟩
theorem noSl_of {e : Expr} (h : notSl e = true) : NoSl e := by
  intro a b
  cases e <;> first | rfl | exact nomatch h
theorem s_lset {c : E} {e : Expr} {x y : Str} {p pos p2 pos2 : Pos} (hc : X.calm = true) (hx : x = Str.ofString "set") (hg : Gl X x) (hm : X.mg x = none) (hy : y = Str.ofString "len") (hg2 : Gl X y) (hm2 : X.mg y = none) (h : PE X e (tE Φ X W c)) (st : starEach [e] X.env = (false, eval e X.env) :: starEach [] X.env) :
    PE X (.Call (.Name y p2) [.Call (.Name x p) [e] [] pos] [] pos2) (tE Φ X W (.dop .lset c z)) := by
  subst hx hy
  refine ⟨fun pins s σ H Q' I h0 => ?_⟩
  obtain ⟨F, ρ, f, Q, xe, r, xo, w, k⟩ := h0
  simp only [wpE, dW] at w
  have h1 : tE Φ X W c σ H fun v H1 => ∃ (a : Addr) (ns : List Int), v = .ref a ∧ SqL X.K H1 a (ns.map V.int) ∧ ns.length < 64 ∧ Q' (.int ns.eraseDups.length) H1 := by
    refine ⟨F, ρ, f, _, xe, r, xo, w, fun v F1 H1 e1 ρ1 f1 g1 fin o q => ?_⟩
    obtain ⟨p1, d1⟩ := e1
    cases d1 <;> first | exact q.elim | skip
    obtain ⟨htr, ns, hns, hl, q⟩ := q
    subst hns
    obtain ⟨a, xs, rfl, hs, dv⟩ := Ow.listTr o htr
    have := dv.ints
    subst this
    exact ⟨a, ns, rfl, .of hs, hl, k _ F1 H1 (sh (.int _)) ρ1 f1 [] fin.drop (Ow_sh.mpr ⟨rfl, dv_int⟩) q⟩
  refine Call_ (ld_blt I hg2 hm2 PySem.boot_len (PyProof.Rows.callWith_builtin1 (args_cons (Call_ (ld_blt I hg hm PyProof.Rows.boot_set (PyProof.Rows.callWith_type1 (args_cons (thn (h.run pins s σ H _ I h1) fun v s1 ⟨x, H1, I1, r1, q1⟩ => args_nil ?_) st) st rfl))) rfl) rfl rfl))
  obtain ⟨a, ns, ex, hq, hl, q⟩ := q1
  subst ex
  cases r1
  obtain ⟨its, rv, pl, hz⟩ := I1.list hq
  have hi : IntsAre its.toArray.toList ns := ints_of_vals rv
  have hn : its.toArray.size = ns.length := by rw [List.size_toArray, ← rv.length, List.length_map]
  refine call_set_list (I1.ok.hd hc) pl.isList hi (by unfold scanBound; omega) fun h' tk hS hk => args_nil ?_
  rw [hn, PySem.W.oss_met, PySem.W.oss_dups] at hS
  have hle : ns.eraseDups.length ≤ ns.length := by rw [← PySem.W.oss_dups]; exact PySem.W.oss_len ns
  obtain ⟨o, es, ep, t, ho, hex, hd, _, _, _, hf, hcount⟩ := hS
  refine call_len_set ho hex hd hf (by rw [hcount]; omega) ⟨.int ns.eraseDups.length, H1, (I1.kept fun b o e => hk b o (Heap.lt_size e) e).tok _, ⟨_, by rw [hcount]⟩, q⟩
theorem rows_refs {K : PySem.W.Frag} {F : Addr → Prop} {H : Hp} : ∀ {rs : List (List Int)} {xs : List V}, DvA K F H (rs.map fun r => .tuple (intsD r)) xs → ∃ ks : List (Addr × List Int), xs = ks.map (fun p => V.ref p.1) ∧ ks.map (·.2) = rs ∧ ∀ p ∈ ks, SqT K H p.1 (p.2.map V.int)
  | [], xs, h => by
    rw [List.map_nil] at h
    simp only [DvA] at h
    exact ⟨[], by rw [h]; rfl, rfl, by simp⟩
  | r :: rs, xs, h => by
    rw [List.map_cons] at h
    simp only [DvA] at h
    obtain ⟨x, xr, rfl, h1, h2⟩ := h
    obtain ⟨ks, rfl, e, h3⟩ := rows_refs h2
    obtain ⟨a, rfl, h4⟩ := Ow.tints (Ow_sh.mpr ⟨rfl, h1⟩)
    refine ⟨(a, r) :: ks, rfl, by rw [List.map_cons, e], fun p hp => ?_⟩
    rcases List.mem_cons.mp hp with rfl | hp
    · exact h4
    · exact h3 p hp
theorem dups_of {α : Type} [BEq α] [LawfulBEq α] : ∀ (n : Nat) (l : List α), l.length ≤ n → l.eraseDups.Nodup ∧ ∀ x, x ∈ l.eraseDups ↔ x ∈ l
  | _, [], _ => by simp
  | 0, a :: l, h => by simp at h
  | n + 1, a :: l, h => by
    obtain ⟨h1, h2⟩ := dups_of n (l.filter fun b => !b == a) (Nat.le_trans (List.length_filter_le _ _) (by simpa using h))
    rw [List.eraseDups_cons]
    refine ⟨List.nodup_cons.mpr ⟨fun z => ?_, h1⟩, fun x => ?_⟩
    · have := (h2 a).mp z
      simp at this
    · rw [List.mem_cons, List.mem_cons, h2 x, List.mem_filter]
      by_cases e : x = a
      · simp [e]
      · simp [e]
theorem s_lsetT {c : E} {e : Expr} {x y : Str} {p pos p2 pos2 : Pos} (hu : X.A.units + 65 < cLine) (hc : X.calm = true) (hx : x = Str.ofString "set") (hg : Gl X x) (hm : X.mg x = none) (hy : y = Str.ofString "len") (hg2 : Gl X y) (hm2 : X.mg y = none) (h : PE X e (tE Φ X W c)) (st : starEach [e] X.env = (false, eval e X.env) :: starEach [] X.env) :
    PE X (.Call (.Name y p2) [.Call (.Name x p) [e] [] pos] [] pos2) (tE Φ X W (.dop .lsetT c z)) := by
  subst hx hy
  refine ⟨fun pins s σ H Q' I h0 => ?_⟩
  obtain ⟨F, ρ, f, Q, xe, r, xo, w, k⟩ := h0
  simp only [wpE, dW] at w
  have h1 : tE Φ X W c σ H fun v H1 => ∃ (a : Addr) (ks : List (Addr × List Int)), v = .ref a ∧ SqL X.K H1 a (ks.map fun p => V.ref p.1) ∧ (∀ p ∈ ks, SqT X.K H1 p.1 (p.2.map V.int)) ∧ ks.length ≤ 305 ∧ Q' (.int (ks.map (·.2)).eraseDups.length) H1 := by
    refine ⟨F, ρ, f, _, xe, r, xo, w, fun v F1 H1 e1 ρ1 f1 g1 fin o q => ?_⟩
    obtain ⟨p1, d1⟩ := e1
    cases d1 <;> first | exact q.elim | skip
    obtain ⟨htr, rs, hrs, hl, q⟩ := q
    subst hrs
    obtain ⟨a, xs, rfl, hs, dv⟩ := Ow.listTr o htr
    obtain ⟨ks, rfl, e, hk⟩ := rows_refs dv
    refine ⟨a, ks, rfl, .of hs, hk, by rw [← e, List.length_map] at hl; exact hl, ?_⟩
    rw [e]
    exact k _ F1 H1 (sh (.int _)) ρ1 f1 [] fin.drop (Ow_sh.mpr ⟨rfl, dv_int⟩) q
  refine Call_ (ld_blt I hg2 hm2 PySem.boot_len (PyProof.Rows.callWith_builtin1 (args_cons (Call_ (ld_blt I hg hm PyProof.Rows.boot_set (PyProof.Rows.callWith_type1 (args_cons (thn (h.run pins s σ H _ I h1) fun v s1 ⟨x, H1, I1, r1, q1⟩ => args_nil ?_) st) st rfl))) rfl) rfl rfl))
  obtain ⟨a, ks, ex, hq, hk, hl, q⟩ := q1
  subst ex
  cases r1
  obtain ⟨its, rv, pl, hz⟩ := I1.list hq
  refine set_of_rows (I1.ok.hd hc) pl.isList (refs_of_vals rv) (fun p hp => I1.isT (hk p hp)) hl (by omega) fun t ht => ?_
  obtain ⟨g, tk, rfl, ⟨Z, es, ep, t2, R, hin, hmem⟩, kp⟩ := ht
  refine args_nil ?_
  obtain ⟨o, ho, hex, hd⟩ := R.ob
  have hlen := SetG.len (s := { s1 with heap := g, toks := tk }) R
  have hfit := SetG.fit (s := { s1 with heap := g, toks := tk }) R
  have mle := R.tab.mok.le
  have room := R.room
  have ecount : es.size = (ks.map (·.2)).eraseDups.length := by
    obtain ⟨n1, n2⟩ := dups_of _ (ks.map (·.2)) (Nat.le_refl _)
    have l1 : Z.length = (Z.map (·.2.2)).length := by rw [List.length_map]
    rw [hlen, l1]
    have same : ∀ x, x ∈ Z.map (·.2.2) ↔ x ∈ (ks.map (·.2)).eraseDups := fun x => by rw [hmem x, n2 x, List.take_of_length_le (Nat.le_refl _)]
    exact Nat.le_antisymm (List.Nodup.length_le_of_subset R.nd fun x hx => (same x).mp hx) (List.Nodup.length_le_of_subset n1 fun x hx => (same x).mpr hx)
  refine call_len_set ho hex hd hfit (by omega) ⟨.int (ks.map (·.2)).eraseDups.length, H1, (I1.kept kp).tok _, ⟨_, by rw [ecount]⟩, q⟩
theorem s_dlen {c : E} {y : Str} {e : Expr} {p2 pos : Pos} (hy : y = Str.ofString "len") (hg : Gl X y) (hm : X.mg y = none) (h : PE X e (tE Φ X W c)) (st : starEach [e] X.env = (false, eval e X.env) :: starEach [] X.env) : PE X (.Call (.Name y p2) [e] [] pos) (tE Φ X W (.dop .dlen c z)) := by
  subst hy
  refine PE.imp (pe_callB call_lenD hg hm boot_len (pa_cons h pa_nil st) (he := st)) fun σ H Q' ⟨F, ρ, f, Q, xe, r, xo, w, k⟩ => ?_
  simp only [wpE, dW] at w
  refine ⟨F, ρ, f, _, xe, r, xo, w, fun v F1 H1 e1 ρ1 f1 g1 fin o q => ?_⟩
  obtain ⟨np, hk, he, q⟩ := q
  obtain ⟨p1, d1⟩ := e1
  have he : d1 = dI hk := he
  subst he
  have hd : ∃ a qs, v = .ref a ∧ H1 a = some (.dK (hiV qs)) ∧ qs.length = hk.length := by
    cases p1 with
    | raw => exact absurd rfl np
    | sh =>
      obtain ⟨a, qs, rfl, _, h1, h2⟩ := dv_dI (Ow_sh.mp o).2
      exact ⟨a, qs, rfl, h1, h2.length⟩
    | own q0 =>
      unfold dI at o
      rw [Ow_dict] at o
      obtain ⟨a, xs, g, rfl, h1, rfl, _⟩ := o
      rcases h1 with ⟨qs, h2, e, _⟩ | ⟨qs, _, e, _⟩
      · exact ⟨a, qs, rfl, h2, by have := congrArg List.length e; simpa using this.symm⟩
      · cases hk with
        | nil => simp at e
        | cons q r => simp at e
  obtain ⟨a, qs, rfl, h1, h2⟩ := hd
  refine ⟨a, _, rfl, h1, ?_⟩
  rw [hiV, List.length_map, h2]
  exact k _ F1 H1 (sh (.int _)) ρ1 f1 [] fin.drop (Ow_sh.mpr ⟨rfl, dv_int⟩) q
end
/-! ### dicts of one's own lists -/
section
variable {K : PySem.W.Frag} {F F' : Addr → Prop} {H H' : Hp}
def IO (K : PySem.W.Frag) (F : Addr → Prop) (H : Hp) : List (Int × D) → List (Int × V) → List Addr → Prop
  | [], [], g => g = []
  | p :: ps, q :: qs, g => ∃ f1 f2, g = f1 ++ f2 ∧ p.1 = q.1 ∧ Ow K F H p.2 (.own .sh) q.2 f1 ∧ IO K F H ps qs f2
  | _, _, _ => False
theorem IO.length : ∀ {ps : List (Int × D)} {qs : List (Int × V)} {g : List Addr}, IO K F H ps qs g → qs.length = ps.length
  | [], [], _, _ => rfl
  | p :: ps, q :: qs, _, ⟨_, _, _, _, _, h⟩ => by simp [IO.length h]
  | [], _ :: _, _, h => h.elim
  | _ :: _, [], _, h => h.elim
theorem IO.keys : ∀ {ps : List (Int × D)} {qs : List (Int × V)} {g : List Addr}, IO K F H ps qs g → ps.map (fun p => PyData.int p.1) = qs.map (fun p => PyData.int p.1)
  | [], [], _, _ => rfl
  | p :: ps, q :: qs, _, ⟨_, _, _, e, _, h⟩ => by rw [List.map_cons, List.map_cons, IO.keys h, e]
  | [], _ :: _, _, h => h.elim
  | _ :: _, [], _, h => h.elim
theorem IO.owk : ∀ {ps : List (Int × D)} {qs : List (Int × V)} {g : List Addr}, IO K F H ps qs g → OwK K F H (ps.map fun p => (.int p.1, p.2)) (.own .sh) (qs.map (·.2)) g
  | [], [], _, h => by simp only [List.map_nil, OwK]; exact ⟨trivial, h⟩
  | p :: ps, q :: qs, _, ⟨f1, f2, e, _, o, h⟩ => by
    simp only [List.map_cons, OwK]
    exact ⟨_, _, f1, f2, rfl, e, o, IO.owk h⟩
  | [], _ :: _, _, h => h.elim
  | _ :: _, [], _, h => h.elim
theorem IO.mk : ∀ {ps : List (Int × D)} {qs : List (Int × V)} {g : List Addr}, ps.map (fun p => PyData.int p.1) = qs.map (fun p => PyData.int p.1) → OwK K F H (ps.map fun p => (.int p.1, p.2)) (.own .sh) (qs.map (·.2)) g → IO K F H ps qs g
  | [], [], _, _, k => by simp only [List.map_nil, OwK] at k; exact k.2
  | p :: ps, q :: qs, _, h, k => by
    simp only [List.map_cons, List.cons.injEq, PyData.int.injEq] at h
    simp only [List.map_cons, OwK] at k
    obtain ⟨x, xr, f1, f2, e, eg, k1, k2⟩ := k
    simp only [List.cons.injEq] at e
    obtain ⟨rfl, rfl⟩ := e
    exact ⟨f1, f2, eg, h.1, k1, IO.mk h.2 k2⟩
  | [], _ :: _, _, h, _ => by simp at h
  | _ :: _, [], _, h, _ => by simp at h
theorem ow_dO {hk : List (Int × D)} {v : V} {f : List Addr} : Ow K F H (dI hk) (.own (.own .sh)) v f ↔ ∃ a qs g, v = .ref a ∧ f = a :: g ∧ H a = some (.dK (hiV qs)) ∧ IO K F H hk qs g := by
  unfold dI
  rw [Ow_dict]
  constructor
  · rintro ⟨a, xs, g, rfl, h1, rfl, h2, _⟩
    rcases h1 with ⟨qs, h1, e, rfl⟩ | ⟨qs, _, e, _⟩
    · refine ⟨a, qs, g, rfl, rfl, h1, IO.mk ?_ h2⟩
      rw [List.map_map] at e
      exact e
    · cases hk with
      | nil => simp at e
      | cons q r => simp at e
  · rintro ⟨a, qs, g, rfl, rfl, h1, h2⟩
    refine ⟨a, qs.map (·.2), g, rfl, .inl ⟨qs, h1, ?_, rfl⟩, rfl, h2.owk, trivial⟩
    simp only [List.map_map]
    exact h2.keys
theorem IO.chg {A : List Addr} (c : Chg F H F' H' A) (off : ∀ a ∈ A, ¬ F a) (lst : ∀ a ∈ A, Mu H a) : ∀ {ps : List (Int × D)} {qs : List (Int × V)} {g : List Addr}, (∀ a ∈ g, a ∉ A) → IO K F H ps qs g → IO K F' H' ps qs g
  | [], [], _, _, h => h
  | p :: ps, q :: qs, _, n, ⟨f1, f2, e, ek, o, h⟩ => by
    subst e
    exact ⟨f1, f2, rfl, ek, Ow.chg c off lst _ _ _ _ (fun a ha => n a (by simp [ha])) o, IO.chg c off lst (fun a ha => n a (by simp [ha])) h⟩
  | [], _ :: _, _, _, h => h.elim
  | _ :: _, [], _, _, h => h.elim
theorem IO.get {l : Int} : ∀ {ps : List (Int × D)} {qs : List (Int × V)} {g : List Addr}, IO K F H ps qs g → (gI ps l).isSome = (gI qs l).isSome
  | [], [], _, _ => rfl
  | p :: ps, q :: qs, _, ⟨f1, f2, e, ek, o, h⟩ => by
    by_cases e : p.1 = l
    · rw [gI_pos e, gI_pos (ek ▸ e)]; rfl
    · rw [gI_neg e, gI_neg (fun z => e (ek ▸ z))]; exact IO.get h
  | [], _ :: _, _, h => h.elim
  | _ :: _, [], _, h => h.elim
theorem IO.snoc {l : Int} {d : D} {v : V} {f3 : List Addr} (o : Ow K F H d (.own .sh) v f3) : ∀ {ps : List (Int × D)} {qs : List (Int × V)} {g : List Addr}, IO K F H ps qs g → IO K F H (ps ++ [(l, d)]) (qs ++ [(l, v)]) (g ++ f3)
  | [], [], _, h => by
    have h : _ = [] := h
    subst h
    exact ⟨f3, [], by simp, rfl, o, rfl⟩
  | p :: ps, q :: qs, _, ⟨f1, f2, e, ek, o1, h⟩ => by
    subst e
    exact ⟨f1, f2 ++ f3, by simp, ek, o1, IO.snoc o h⟩
  | [], _ :: _, _, h => h.elim
  | _ :: _, [], _, h => h.elim
theorem IO.nest {l : Int} {ys : List D} : ∀ {ps : List (Int × D)} {qs : List (Int × V)} {g : List Addr}, IO K F H ps qs g → g.Nodup → (∀ a ∈ g, ¬ F a) → gI ps l = some (.list ys) →
    ∃ b bv, gI qs l = some (.ref b) ∧ b ∈ g ∧ H b = some (.lst bv) ∧ DvA K F H ys bv ∧ ∀ (ys' : List D) (bv' : List V), DvA K F H ys' bv' → IO K F (upd H b (.lst bv')) (seI ps l (.list ys')) qs g
  | [], [], _, _, _, _, h => by simp [gI_nil] at h
  | p :: ps, q :: qs, _, ⟨f1, f2, e, ek, o1, h⟩, nd, off, hg => by
    subst e
    obtain ⟨n1, n2, n3⟩ := List.nodup_append.mp nd
    by_cases e : p.1 = l
    · rw [gI_pos e] at hg
      rw [gI_pos (ek ▸ e)]
      obtain ⟨pk, pd⟩ := p
      have hg : pd = .list ys := by simpa using hg
      subst hg
      obtain ⟨b, bv, g', hv, hb, rfl, h3, _⟩ := Ow_list.mp o1
      obtain ⟨rfl, h3b⟩ := OwA_sh.mp h3
      refine ⟨b, bv, by rw [hv], by simp, hb, h3b, fun ys' bv' hd => ?_⟩
      have c : Chg F H F (upd H b (.lst bv')) [b] := chg_upd (by rw [hb]; simp)
      have offb : ∀ x ∈ [b], ¬ F x := fun x hx => (show x = b by simpa using hx) ▸ off b (by simp)
      have lstb : ∀ x ∈ [b], Mu H x := fun x hx => (show x = b by simpa using hx) ▸ .of hb
      unfold seI
      rw [if_pos e]
      refine ⟨[b], f2, rfl, ek, ?_, IO.chg c offb lstb (fun x hx z => ?_) h⟩
      · rw [hv]
        exact Ow_list.mpr ⟨b, bv', [], rfl, upd_same, rfl, OwA_sh.mpr ⟨rfl, DvA.chg c offb lstb _ _ hd⟩, trivial⟩
      · have e : x = b := by simpa using z
        subst e
        exact n3 x (by simp) x hx rfl
    · rw [gI_neg e] at hg
      rw [gI_neg (fun z => e (ek ▸ z))]
      obtain ⟨b, bv, k1, k2, k3, k4, k5⟩ := IO.nest h n2 (fun a ha => off a (by simp [ha])) hg
      refine ⟨b, bv, k1, by simp [k2], k3, k4, fun ys' bv' hd => ?_⟩
      have c : Chg F H F (upd H b (.lst bv')) [b] := chg_upd (by rw [k3]; simp)
      have offb : ∀ x ∈ [b], ¬ F x := fun x hx => (show x = b by simpa using hx) ▸ off b (by simp [k2])
      have lstb : ∀ x ∈ [b], Mu H x := fun x hx => (show x = b by simpa using hx) ▸ .of k3
      unfold seI
      rw [if_neg e]
      refine ⟨f1, f2, rfl, ek, Ow.chg c offb lstb _ _ _ _ (fun x hx z => ?_) o1, k5 ys' bv' hd⟩
      have e : x = b := by simpa using z
      subst e
      exact n3 x hx x k2 rfl
  | [], _ :: _, _, h, _, _, _ => h.elim
  | _ :: _, [], _, h, _, _, _ => h.elim
theorem Rep.dco {σ : L2.St} {ρ : Rho} {f : List Addr} {i : Nat} {hk : List (Int × D)} (r : Rep K F H σ ρ f) (h : ρ.at i = some ⟨.own (.own .sh), dI hk⟩) :
    ∃ a qs g f0, σ[i]? = some (some (.ref a)) ∧ H a = some (.dK (hiV qs)) ∧ IO K F H hk qs g ∧ f.Perm (a :: g ++ f0) ∧ Rep K F H σ (ρ.set i none) f0 := by
  obtain ⟨o, ga, f0, h1, pp, ⟨v, rfl, s⟩, r0⟩ := r.out (at_some h)
  obtain ⟨a, qs, g, rfl, rfl, h2, h3⟩ := ow_dO.mp s
  exact ⟨a, qs, g, f0, h1, h2, h3, pp, r0⟩
end
section
variable {Φ : String → Spec} {X : Cx} {W : WX} {z z2 : E}
theorem s_dnewO {pos : Pos} : PE X (.Dict [] [] pos) (tE Φ X W (.dop .newO z z2)) := PE.imp pe_dnewK fun σ H Q' ⟨F, ρ, f, Q, xe, r, x, w, k⟩ => by
  simp only [wpE, dW] at w
  intro p hp
  have q : Res X.K F H (fun e => Q e ρ) (.ref p) (upd H p (.dK (hiV []))) := ⟨⟨.own (.own .sh), dI []⟩, [p], chg_new hp, ow_dO.mpr ⟨p, [], [], rfl, rfl, upd_same, rfl⟩, by simpa using hp, by simp, w⟩
  obtain ⟨e, g, fin', o, q'⟩ := (FinG.refl r).res q
  exact k _ F _ e ρ f g fin' o q'
theorem i_dinO {i : Nat} {k : E} {n : Bool} (σ : L2.St) (H : Hp) (Q' : VK) : tE Φ X W (.dop (.dinO n i) k z) σ H Q' → tE Φ X W k σ H fun y H1 => tVar i σ H1 fun x H2 => ∃ a o, x = .ref a ∧ DGet H2 a y o ∧ Q' (.bl (Bool.xor n o.isSome)) H2 := fun ⟨F, ρ, f, Q, xe, r, x, w, k⟩ => by
  simp only [wpE, dW] at w
  refine ⟨F, ρ, f, _, xe, r, x, w, fun u F1 H1 e2 ρ1 f1 g1 fin o q => ?_⟩
  obtain ⟨n, hn, hk1, e3, q⟩ := isInt_some' q
  obtain ⟨a1, qs1, g, f0, n1, n2, n3, _⟩ := fin.rep.dco e3
  have eu := int_of o hn
  subst eu
  refine ⟨_, n1, a1, _, rfl, DGet.k (k := .inl n) n2, ?_⟩
  rw [valV_hi, ← n3.get (l := n)]
  exact k _ F1 H1 (sh (.bool _)) ρ1 f1 [] fin.drop (Ow_sh.mpr ⟨rfl, by simp only [Dv]⟩) q
theorem s_dinO {i : Nat} {k : E} {x : Str} {e : Expr} {px pos : Pos} (hu : X.A.units + 1 < cLine) (h : nameB X.env.scope X.N i x = true) (he : PE X e (tE Φ X W k)) :
    PE X (.Compare e [.In] [.Name x px] pos) (tE Φ X W (.dop (.dinO false i) k z)) ∧ PT X (.Compare e [.In] [.Name x px] pos) (tTst Φ X W (.dop (.dinO false i) k z)) := by
  have im : ∀ (σ : L2.St) (H : Hp) (Q' : VK), tE Φ X W (.dop (.dinO false i) k z) σ H Q' → tDIn (tE Φ X W k) (tVar i) σ H Q' := fun σ H Q' z => by
    have := i_dinO σ H Q' z
    simp only [Bool.false_xor] at this
    exact this
  exact ⟨PE.imp (pe_cmp (pc_din hu he (pe_nm h)) rfl) im, PT.imp (pt_cmp (pc_din hu he (pe_nm h)) rfl) fun _ _ _ zz => im _ _ _ (tTst_tE zz)⟩
theorem s_dninO {i : Nat} {k : E} {x : Str} {e : Expr} {px pos : Pos} (hu : X.A.units + 1 < cLine) (h : nameB X.env.scope X.N i x = true) (he : PE X e (tE Φ X W k)) :
    PE X (.Compare e [.NotIn] [.Name x px] pos) (tE Φ X W (.dop (.dinO true i) k z)) ∧ PT X (.Compare e [.NotIn] [.Name x px] pos) (tTst Φ X W (.dop (.dinO true i) k z)) := by
  have im : ∀ (σ : L2.St) (H : Hp) (Q' : VK), tE Φ X W (.dop (.dinO true i) k z) σ H Q' → tDNotIn (tE Φ X W k) (tVar i) σ H Q' := fun σ H Q' z => by
    have := i_dinO σ H Q' z
    simp only [Bool.true_xor] at this
    exact this
  exact ⟨PE.imp (pe_cmp (pc_dnotin hu he (pe_nm h)) rfl) im, PT.imp (pt_cmp (pc_dnotin hu he (pe_nm h)) rfl) fun _ _ _ zz => im _ _ _ (tTst_tE zz)⟩
end
/-! ### d.get(k, []), dict(xs) -/
section
variable {K : PySem.W.Frag} {F : Addr → Prop} {H : Hp}
theorem pairs_of : ∀ {ps : List (Int × D)} {xs : List V}, DvA K F H (ps.map fun p => .tuple [.int p.1, p.2]) xs → ∃ (as : List Addr) (qs : List (Int × V)), xs = as.map V.ref ∧ IP K F H ps qs ∧ Paired (fun (p : Addr) (kv : Key × V) => SqT K H p [kV kv.1, kv.2]) as (hiV qs)
  | [], xs, h => ⟨[], [], DvA_nil.mp h, trivial, Paired.nil⟩
  | p :: ps, xs, h => by
    rw [List.map_cons] at h
    obtain ⟨x, xr, rfl, h1, h2⟩ := DvA_cons.mp h
    obtain ⟨as, qs, rfl, i, pr⟩ := pairs_of h2
    simp only [Dv] at h1
    obtain ⟨a, ys, rfl, s, d⟩ := h1
    obtain ⟨y1, yr, rfl, d1, d2⟩ := DvA_cons.mp d
    obtain ⟨y2, yr2, rfl, d3, d4⟩ := DvA_cons.mp d2
    have e4 := DvA_nil.mp d4
    subst e4
    simp only [Dv] at d1
    subst d1
    exact ⟨a :: as, (p.1, y2) :: qs, rfl, ⟨rfl, d3, i⟩, Paired.cons s pr⟩
theorem IP.fold : ∀ {ps : List (Int × D)} {qs : List (Int × V)} {as : List (Int × D)} {bs : List (Int × V)}, IP K F H ps qs → IP K F H as bs → IP K F H (ps.foldl (fun acc p => pI acc p.1 p.2) as) (qs.foldl (fun acc p => pI acc p.1 p.2) bs)
  | [], [], _, _, _, h => h
  | p :: ps, q :: qs, as, bs, i, h => by
    rw [List.foldl_cons, List.foldl_cons]
    have := h.put (l := p.1) i.2.1
    rw [← i.1]
    exact IP.fold i.2.2 this
  | [], _ :: _, _, _, h, _ => h.elim
  | _ :: _, [], _, _, h, _ => h.elim
theorem merge_hi : ∀ (qs : List (Int × V)) (bs : List (Int × V)), mergeK (hiV bs) (hiV qs) = hiV (qs.foldl (fun acc p => pI acc p.1 p.2) bs)
  | [], _ => rfl
  | q :: qs, bs => by
    show mergeK (putK (hiV bs) (.inl q.1) q.2) (hiV qs) = _
    rw [putK_hi, merge_hi qs]
    rfl
end
section
variable {Φ : String → Spec} {X : Cx} {W : WX} {z z2 : E}
theorem s_dgd {i : Nat} {k : E} {x m : Str} {p ap cp pl : Pos} {e : Expr} (hu : X.A.units + 1 < cLine) (h : nameB X.env.scope X.N i x = true) (hm : m = Str.ofString "get") (hl : (ap.endLine == cp.line) = true) (he : PE X e (tE Φ X W k))
    (hs : starEach [e, .List [] pl] X.env = [(false, eval e X.env), (false, eval (.List [] pl) X.env)]) : PE X (.Call (.Attribute (.Name x p) m ap) [e, .List [] pl] [] cp) (tE Φ X W (.dop (.dgd i) k z)) := by
  subst hm
  refine PE.imp (pe_dget2 hu (pe_nm h) he (pe_lst pa_nil) ⟨rfl, by rw [hs]; rfl, hl, by rw [hs]; rfl⟩) fun σ H Q' ⟨F, ρ, f, Q, xe, r, xo, w, K⟩ => ?_
  simp only [wpE, dW] at w
  obtain ⟨e0, h0, w⟩ := onO_some w
  obtain ⟨hc, hz, hk, hd, w⟩ := w
  obtain ⟨v, F', f', h1, fin, o⟩ := r.share h0 hc
  rw [hz, hd] at fin o
  obtain ⟨a, qs, rfl, hFa, k2, k3⟩ := dv_dI (Ow_sh.mp o).2
  refine ⟨_, h1, a, rfl, .inl ⟨_, .inl k2⟩, F', _, f', _, xe, fin.rep, xo.fin fin, w, fun u F1 H1 e1 ρ1 f1 g1 fin1 o1 q => ?_⟩
  obtain ⟨n, hn, q⟩ := isInt_some' q
  have eu := int_of o1 hn
  subst eu
  refine ⟨Nat.zero_le _, fun p hp => ?_⟩
  have a1 : H1 a = some (.dK (hiV qs)) := fin1.chg.rdL fin.rep.off hFa k2
  have i1 : IP X.K F1 H1 hk qs := k3.chg fin1.chg fin.rep.off fin.rep.lst
  have na : a ≠ p := fun z => by rw [z, hp] at a1; cases a1
  refine ⟨_, DGet.k (k := .inl n) (by rw [upd_ne na]; exact a1), ?_⟩
  rw [valV_hi]
  have ft := fin.trans' fin1.drop
  have gg := i1.get (l := n)
  cases hg : gI hk n with
  | some d =>
    obtain ⟨v, hv, dv⟩ := gg.2 d hg
    rw [hv]
    rw [hg] at q
    have rs : Res X.K F1 H1 (fun e => Q e ρ1) v (upd H1 p (.lst [])) := ⟨sh d, [], chg_new hp, Ow_sh.mpr ⟨rfl, Dv.chg (chg_new hp) (by simp) (by simp) _ _ dv⟩, by simp, by simp, q⟩
    obtain ⟨e, g, fin', o', q'⟩ := ft.res rs
    exact K v F1 _ e ρ1 f1 g fin' o' q'
  | none =>
    have hv : gI qs n = none := by
      have := gg.1
      rw [hg] at this
      cases e : gI qs n with
      | none => rfl
      | some v => rw [e] at this; cases this
    rw [hv]
    rw [hg] at q
    obtain ⟨e, g, fin', o', q'⟩ := ft.res (res_lst (Q := fun e => e = ownL (.list [])) hp (DvA_nil.mpr rfl) rfl)
    subst q'
    exact K (.ref p) _ _ (sh (.list [])) ρ1 f1 [] fin'.give (o'.givez _ (fun _ z => .inl z) rfl fun a ha => .inr ha) q
theorem s_dfrom {c : E} {y : Str} {e : Expr} {p2 pos : Pos} (hc : X.calm = true) (hy : y = Str.ofString "dict") (hg : Gl X y) (hm : X.mg y = none) (h : PE X e (tE Φ X W c)) (st : starEach [e] X.env = (false, eval e X.env) :: starEach [] X.env) : PE X (.Call (.Name y p2) [e] [] pos) (tE Φ X W (.dop .dfrom c z)) := by
  subst hy
  refine PE.imp (pe_callTy (call_dictP hc) hg hm (by decide +kernel) (pa_cons h pa_nil st) (he := st)) fun σ H Q' ⟨F, ρ, f, Q, xe, r, xo, w, k⟩ => ?_
  simp only [wpE, dW] at w
  refine ⟨F, ρ, f, _, xe, r, xo, w, fun v F1 H1 e1 ρ1 f1 g1 fin o q => ?_⟩
  obtain ⟨p1, d1⟩ := e1
  cases d1 <;> first | exact q.elim | skip
  obtain ⟨htr, ps, hps, q⟩ := q
  subst hps
  obtain ⟨a, xs, rfl, hs, dv⟩ := Ow.listTr o htr
  obtain ⟨as, qs, rfl, ip, pr⟩ := pairs_of dv
  refine ⟨a, as, hiV qs, rfl, .of hs, pr, fun p hp => ?_⟩
  have e0 : mergeK [] (hiV qs) = hiV (qs.foldl (fun acc p => pI acc p.1 p.2) []) := merge_hi qs []
  rw [e0]
  obtain ⟨e, g, fin', o', q'⟩ := fin.res (res_dI (Q := fun e => Q e ρ1) hp (ip.fold (as := []) (bs := []) trivial) q)
  exact k _ F1 _ e ρ1 f1 g fin' o' q'
end
end MS
namespace MS
open PySem PySem.Spec PyProof.Rows L2
/-! ### exceptions as values -/
/-- at a lies an exception of the class at C -/
def XAt (H : Hp) (a C : Addr) : Prop := H a = some (exv a C none) ∨ ∃ dd fs, H a = some (exv a C (some dd)) ∧ H dd = some (.xd fs)
/-- what the text tells of C -/
structure XCl (K : PySem.W.Frag) (C : Addr) : Prop where
  sub : PySem.W.subIn K (.ref C) (.type "BaseException") = some true
  hd : PySem.W.hasDictIn K C = true
  ga : PySem.W.findIn K (.ref C) "__getattribute__" = some (some (.builtin "BaseException.__getattribute__"))
  gg : PySem.W.findIn K (.ref C) "__getattr__" = some none
  cl : PySem.W.findIn K (.ref C) "__class__" = some (some (.builtin "object.__class__"))
  ob : PySem.W.mroIn K C (.type "object") = some true
  sp : PySem.W.specialIn K (.builtin "object.__class__") "__get__" = some (some (.builtin "getset_descriptor.__get__"))
  tk : PySem.W.takesIn K (.builtin "object.__class__") = some true
theorem XC.xcl {K : PySem.W.Frag} {mg : Str → Option Value} {cs : List String} {c : String} {C : Addr} (E : ExcOk K mg cs) (x : XC K mg c C) : XCl K C := ⟨x.sub, x.hd, x.ga, x.gg, x.cl, x.ob, E.sp, E.tk⟩
theorem DvX0.at_ {K : PySem.W.Frag} {H : Hp} {kvs : List (D × D)} {v : V} (h : DvX0 K H kvs v) : ∃ c a C, v = .ref a ∧ c ∈ allC ∧ PySem.W.nsIn K mainGlobals (Str.ofString c) = some (some (.ref C)) ∧ XAt H a C ∧ ∀ x, kvs = excKv x → x.cls = c := by
  obtain ⟨c, a, C, rfl, hc, n, ⟨e, h⟩ | ⟨i, dd, e0, e, h1, h2⟩⟩ := h
  · exact ⟨c, a, C, rfl, hc, n, .inl h, fun x z => (excD_inj0 hc (z.symm.trans e)).1⟩
  · exact ⟨c, a, C, rfl, hc, n, .inr ⟨dd, _, h1, h2⟩, fun x z => (excD_inj1 hc (z.symm.trans e)).1⟩
section
variable {X : Cx} {pins : List (Addr × Obj)} {σ : L2.St} {H : Hp} {s : Shared}
theorem xat_inst {a C : Addr} (I : Inv X pins σ H s) (h : XAt H a C) : ∃ ob od, PySem.W.InstAt s.heap a ob C od := by
  rcases h with h | ⟨dd, fs, h, h2⟩
  · obtain ⟨ob, vs, e, z, f⟩ := exv_at I.hok h
    exact ⟨ob, none, e, z.1, by unfold PySem.W.notCls; rw [f], by rw [z.2]; trivial⟩
  · obtain ⟨ob, vs, e, z, f⟩ := exv_at I.hok h
    have x : ObjOk X.prog X.w H s.heap dd (.xd fs) := I.hok dd _ h2
    obtain ⟨mA, hns, _⟩ := x
    obtain ⟨od, ho, _⟩ := lookIn_ns hns
    exact ⟨ob, some od, e, z.1, by unfold PySem.W.notCls; rw [f], by rw [z.2]; exact ho⟩
theorem xat_kit {a C : Addr} (T : XCl X.K C) (I : Inv X pins σ H s) (h : XAt H a C) : ∃ P : Heap → Prop, PySem.W.KitX X.K (.ref a) (.ref C) P ∧ P s.heap := by
  obtain ⟨ob, od, J⟩ := xat_inst I h
  have ic : (PySem.W.clsIn X.K C).isSome = true := by
    have hd := T.hd
    unfold PySem.W.hasDictIn at hd
    cases e : PySem.W.clsIn X.K C with
    | none => rw [e] at hd; cases hd
    | some _ => rfl
  exact ⟨_, PySem.W.kitx_exc ic T.ga T.gg T.sub T.cl T.sp T.tk T.ob, J⟩
end
/-- isinstance(e, c) -/
def rIsX (K : PySem.W.Frag) : List V → Hp → VK → Prop := fun xs H Q => ∃ (a C : Addr) (c : V) (u : Value) (b : Bool), xs = [.ref a, c] ∧ ClsV c u ∧ XAt H a C ∧ XCl K C ∧ PySem.W.kitOne K (.ref C) u = some b ∧ Q (.bl b) H
/-- isinstance(e, (c, ..)) -/
def rIsXT (K : PySem.W.Frag) : List V → Hp → VK → Prop := fun xs H Q => ∃ (a C tp : Addr) (cs : List V) (us : List Value) (b : Bool), xs = [.ref a, .ref tp] ∧ H tp = some (.tup cs) ∧ Paired ClsV cs us ∧ XAt H a C ∧ XCl K C ∧ PySem.W.kitAny K (.ref C) us = some b ∧ Q (.bl b) H
section
variable {X : Cx}
theorem call_isX : CallR X (.builtin "isinstance") (rIsX X.K) := by
  rintro pins s σ H xs us Q I r ⟨a, C, c, u, b, rfl, k, at_, T, e, q⟩
  obtain ⟨u1, u2, rfl, r1, r2⟩ := vals2 r
  cases (show u1 = Value.ref a from r1)
  have e2 := k.eq r2
  subst e2
  obtain ⟨P, Z, p⟩ := xat_kit T I at_
  exact PySem.W.kia_one Z I.kIn p e (fun z => nomatch z) fun t => ⟨.bl b, H, I.tok t, rfl, q⟩
theorem call_isXT : CallR X (.builtin "isinstance") (rIsXT X.K) := by
  rintro pins s σ H xs us Q I r ⟨a, C, tp, cs, ws, b, rfl, hT, k, at_, T, e, q⟩
  obtain ⟨u1, u2, rfl, r1, r2⟩ := vals2 r
  cases (show u1 = Value.ref a from r1)
  cases (show u2 = Value.ref tp from r2)
  obtain ⟨P, Z, p⟩ := xat_kit T I at_
  obtain ⟨_, its, rv, ⟨oc, od, dt, sl⟩, g1, g2, n, g3⟩ := (show ObjOk X.prog X.w H s.heap tp (.tup cs) from I.hok tp _ hT)
  have e3 := ClsV.all k rv
  subst e3
  simp only at g2 g3
  subst g2 g3
  exact PySem.W.kia_tup Z I.kIn p g1 e (fun z => nomatch z) fun t => ⟨.bl b, H, I.tok t, rfl, q⟩
end
/-- e.place -/
def tPlace (K : PySem.W.Frag) (f : Str) (te : TE) : TE := fun σ H Q => te σ H fun x H1 => ∃ (a C dd : Addr) (fs : List (Str × V)) (v : V), x = .ref a ∧ XCl K C ∧ PySem.W.findIn K (.ref C) f = some none ∧ H1 a = some (exv a C (some dd)) ∧ H1 dd = some (.xd fs) ∧ fs.lookup f = some v ∧ Q v H1
theorem pe_place {X : Cx} {e : Expr} {te : TE} {pos : Pos} {n : Str} (he : PE X e te) (hb : attributeBase e n X.env (eval e X.env) = eval e X.env) : PE X (.Attribute e n pos) (tPlace X.K n te) := by
  refine ⟨fun pins s σ H Q I h => attr_of hb (thn (he.run pins s σ H _ I h) fun u s1 hh => ?_)⟩
  obtain ⟨x, H1, I1, rx, a, C, dd, fs, v, rfl, T, hno, h1, h2, l, q⟩ := hh
  cases (show u = Value.ref a from rx)
  obtain ⟨ob, vs, g, z, f⟩ := exv_at I1.hok h1
  have x : ObjOk X.prog X.w H1 s1.heap dd (.xd fs) := I1.hok dd _ h2
  obtain ⟨mA, hns, hr⟩ := x
  obtain ⟨od, ho, hl⟩ := lookIn_ns hns
  obtain ⟨w, hw, rw'⟩ := RelO.some_of (v := v) (o := mA n) (by rw [← l]; exact hr n)
  have J : PySem.W.InstAt s1.heap a ob C (some od) := ⟨g, z.1, by unfold PySem.W.notCls; rw [f], by rw [z.2]; exact ho⟩
  exact HandSPX.exc_get I1.kIn J T.ga T.gg T.sub (PySem.W.findObj_own T.hd hno rfl (by rw [hl, hw])) (handed_of rw') ⟨v, H1, I1.tok _, rw', q⟩
end MS
namespace MS
open PySem PySem.Spec PyProof.Rows L2
/-! ### exceptions made and not raised; defs as values -/
/-- what was caught, as a datum -/
theorem dvx_new {K : PySem.W.Frag} {mg : Str → Option Value} {F : Addr → Prop} {H : Hp} {x : Ex} {cls : Value} {d : Option Addr} {a : Addr} (hn : H a = none) (e : ExR K mg F H x cls d) : ∃ C, cls = .ref C ∧ Dv K F (upd H a (exv a C d)) (excD x) (.ref a) := by
  obtain ⟨C, h1, h2, h3, h4⟩ := e
  refine ⟨C, h3, ?_⟩
  unfold excD
  simp only [Dv]
  obtain ⟨c, xs⟩ := x
  rcases h4 with ⟨h4, h5⟩ | ⟨i, dd, h4, h5, h6, h7⟩
  · simp only at h4
    subst h4 h5
    exact .inl (.inl ⟨c, a, C, rfl, h1, h2, .inl ⟨rfl, upd_same⟩⟩)
  · simp only at h4 h5
    subst h4 h5 h6
    exact .inl (.inl ⟨_, a, C, rfl, h1, h2, .inr ⟨i, dd, rfl, rfl, upd_same, by rw [upd_ne (ne_of_none h7 hn)]; exact h7⟩⟩)
section
variable {X : Cx} {pins : List (Addr × Obj)} {σ : L2.St} {H : Hp} {s s' : Shared}
theorem un_laid {fs ex : List Addr} {h h' : Heap} {a : Addr} {o : HO} (k : ∀ b u, h.get? b = some u → h'.get? b = some u) (hp : h.get? a = none) (hn : H a = none) : Un fs ex H (upd H a o) h h' where
  keep := fun b u q _ _ _ => k b u q
  slot := fun b u q _ _ _ => ⟨u.slots, k b u q⟩
  free := fun b u q n _ => by rw [upd_ne (fun z => by rw [z, hp] at q; cases q)]; exact n
  there := fun b u q _ => ⟨u, k b u q⟩
  tups := fun b xs q => by rw [upd_ne (ne_of_none q hn)]; exact q
  frzs := fun b u xs q => by rw [upd_ne (ne_of_none q hn)]; exact q
  tbls := fun b ps q => ⟨#[], by rw [upd_ne (ne_of_none q hn), q]; simp⟩
theorem hok_laid {P : Program} {w : World} {h h' : Heap} {a : Addr} {o : HO} (x : HOk P w H h) (k : ∀ b u, h.get? b = some u → h'.get? b = some u) (hn : H a = none) (new : ObjOk P w (upd H a o) h' a o) : HOk P w (upd H a o) h' := fun b u e => by
  by_cases hb : b = a
  · subst hb
    rw [upd_same] at e
    cases e
    exact new
  · rw [upd_ne hb] at e
    exact (x b u e).stay (fun c v _ q => k c v q) (fun c q => by rw [upd_ne (ne_of_none q hn)]; exact q) fun c xs q => by rw [upd_ne (ne_of_none q hn)]; exact q
theorem inv_laidG {a : Addr} {o : HO} (I : Inv X pins σ H s) (k : ∀ b u, s.heap.get? b = some u → s'.heap.get? b = some u) (hp : s.heap.get? a = none) (hn : H a = none) (os : s'.os = s.os) (ag : AllBare s'.gens) (new : ObjOk X.prog X.w (upd H a o) s'.heap a o) : Inv X pins σ (upd H a o) s' := by
  have u : Un X.fs [] H (upd H a o) s.heap s'.heap := un_laid k hp hn
  obtain ⟨m, ⟨ob, es, ep, ho, r⟩, _⟩ := id I.loc
  obtain ⟨sl, hL⟩ := u.any ho I.free (by simp)
  have J := I.step (g' := s'.gens) (d' := s'.drawn) (t' := s'.toks) (ch := []) (fun _ z => nomatch z) (fun b o _ hb _ e n => u.keep b o e n hb (by simp)) (fun b o _ hb _ e n => u.slot b o e n hb (by simp)) (fun b o _ e n => u.free b o e n (by simp)) (fun b o _ e => u.there b o e (by simp)) u.tups u.frzs u.tbls (fun m' hm => by
    obtain ⟨o', es', ep', ho', r'⟩ := hm
    rw [ho] at ho'; cases ho'
    exact ⟨_, es', ep', hL, r'⟩) (hok_laid I.hok k hn new) ag
  obtain ⟨h1, h2, h3, h4, h5⟩ := s'
  obtain ⟨k1, k2, k3, k4, k5⟩ := s
  simp only at os
  subst os
  exact J
end
theorem pe_made {X : Cx} {e : Expr} {t : L2.St → Hp → XK → Prop} (he : PMk X e t) : PE X e (fun σ H Q => t σ H fun cls d H1 => ∃ C, cls = .ref C ∧ ∀ a, H1 a = none → Q (.ref a) (upd H1 a (exv a C d))) := by
  refine ⟨fun pins s σ H Q I h => thn (he pins s σ H _ I h) fun u s' hu => ?_⟩
  obtain ⟨a, oe, vs, sI, H', cls, d, rfl, J, k, hne, ha, hz, hd, h1, na, os, ag, r, C, rfl, q⟩ := hu
  exact ⟨.ref a, upd H' a (exv a C d), inv_laidG J k hne na os ag (exv_ok ha hz hd), rfl, q a na⟩
section
variable {fs : Fs} {Φ : String → Spec} {X : Cx} {W : WX}
theorem s_exc {c : String} {x m : Str} {j : Nat} {p p2 pos : Pos} (G : Gd fs Φ X W) (hm : c ∈ fs.cls) (hn : c ≠ "NoDigit") (hx : x = Str.ofString c) (hg : glB X.env.scope x = true) :
    PE X (.Call (.Name x p) [.Constant (.str m) j p2] [] pos) (tE Φ X W (.exc c)) := by
  subst hx
  obtain ⟨C, T⟩ := G.exc.one c hm
  obtain ⟨g1, o1⟩ := glB_of hg
  refine PE.imp (pe_made (pmk_own PySem.F.excBase_ValueError (G.exc.tx c hm hn C T.ns) T.mg T.kp (raises_own T.sub T.ty) g1 (okName_of o1).1)) fun σ H Q' ⟨F, ρ, f, Q, xe, r, xo, w, k⟩ => ?_
  simp only [wpE] at w
  refine ⟨C, rfl, fun a hn => ?_⟩
  obtain ⟨C2, e2, dv⟩ := dvx_new (F := F) (x := ⟨c, []⟩) hn (show ExR X.K X.mg F H ⟨c, []⟩ (.ref C) none from ⟨C, G.exc.all c hm, T.ns, rfl, .inl ⟨rfl, rfl⟩⟩)
  cases e2
  have res : Res X.K F H (fun e => Q e ρ) (.ref a) (upd H a (exv a C none)) := ⟨sh (excD ⟨c, []⟩), [], chg_new hn, Ow_sh.mpr ⟨rfl, dv⟩, by simp, by simp, w⟩
  obtain ⟨e, g, fin, o, q⟩ := (FinG.refl r).res res
  exact k _ F _ e ρ f g fin o q
theorem s_excF {x : Str} {e : E} {a : Expr} {p pos : Pos} (G : Gd fs Φ X W) (hc : fs.calm = true) (hm : "NoDigit" ∈ fs.cls) (hx : x = Str.ofString "NoDigit") (hg : glB X.env.scope x = true) (h : PE X a (tE Φ X W e)) (hs : starEach [a] X.env = (false, eval a X.env) :: starEach [] X.env) :
    PE X (.Call (.Name x p) [a] [] pos) (tE Φ X W (.excF "NoDigit" "place" e)) := by
  subst hx
  obtain ⟨C, fI, fd, ps, n1, T, n2, n3, n4, n5, n6⟩ := (G.ndg hc hm).ok
  have n7 := (G.ndg hc hm).room
  obtain ⟨g1, o1⟩ := glB_of hg
  have XCx := G.exc.at_ (G.exc.all _ hm) n1
  refine PE.imp (pe_made (pmk_oex T n3 n4 n5 n7 n6 .nil (fun _ _ _ _ _ _ _ h => h.elim) g1 XCx.mg (pa_cons h pa_nil hs) (okName_of o1).1 hs rfl)) fun σ H Q' ⟨F, ρ, f, Q, xe, r, xo, w, k⟩ => ?_
  simp only [wpE] at w
  refine ⟨F, ρ, f, _, _, r, xo, w, fun v F1 H1 e1 ρ1 f1 g1 fin o q => ?_⟩
  obtain ⟨i, hi, i0, i1, q⟩ := isInt_some q
  have ev := int_of o hi
  subst ev
  refine ⟨by simp, fun ad hn => ⟨ad, C, i, rfl, T, n2, upd_same, i0, i1, fun d hd hda => ?_⟩⟩
  have hd1 : H1 d = none := by rw [upd_ne hda] at hd; exact hd
  refine ⟨rfl, d, _, upd_same, by rw [upd_ne hda, upd_same], hd1, ?_⟩
  have eH : upd (del (upd (upd (upd H1 ad (exo ad C none)) d (exd d [(Str.ofString "place", .int i)])) ad (exo ad C (some d))) ad) d (.xd [(Str.ofString "place", .int i)]) = upd H1 d (.xd [(Str.ofString "place", .int i)]) := by
    funext b
    by_cases h1 : b = d
    · rw [h1, upd_same, upd_same]
    · rw [upd_ne h1, upd_ne h1]
      by_cases h2 : b = ad
      · rw [h2, del_same, hn]
      · rw [del_ne h2, upd_ne h2, upd_ne h1, upd_ne h2]
  rw [eH]
  refine ⟨C, rfl, fun a ha => ?_⟩
  have c1 : Chg F1 H1 F1 (upd H1 d (.xd [(Str.ofString "place", .int i)])) [] := chg_new hd1
  obtain ⟨C2, e2, dv⟩ := dvx_new (F := F1) (x := ⟨"NoDigit", [("place", .int i)]⟩) ha (show ExR X.K X.mg F1 _ ⟨"NoDigit", [("place", .int i)]⟩ (.ref C) (some d) from ⟨C, G.exc.all _ hm, n1, rfl, .inr ⟨i, d, rfl, rfl, rfl, upd_same⟩⟩)
  cases e2
  have c2 : Chg F1 H1 F1 (upd (upd H1 d (.xd [(Str.ofString "place", .int i)])) a (exv a C (some d))) [] := c1.trans (chg_new ha) (by simp)
  have res : Res X.K F1 H1 (fun e => Q e ρ1) (.ref a) (upd (upd H1 d (.xd [(Str.ofString "place", .int i)])) a (exv a C (some d))) := ⟨sh (excD ⟨"NoDigit", [("place", .int i)]⟩), [], c2, Ow_sh.mpr ⟨rfl, dv⟩, by simp, by simp, q⟩
  obtain ⟨e, g, fin', o, q⟩ := fin.drop.res res
  exact k _ F1 _ e ρ1 f1 g fin' o q
theorem s_fnv {f : String} {x : Str} {p : Pos} (G : Gd fs Φ X W) (hf : f ∈ fs.defs) (hx : x = Str.ofString f) (hg : glB X.env.scope x = true) : PE X (.Name x p) (tE Φ X W (.fnv f)) := by
  subst hx
  obtain ⟨a, fd, kk, n, ps, hm, hn, _⟩ := G.fn f hf
  obtain ⟨g1, o1⟩ := glB_of hg
  refine PE.imp (pe_glob (v := .ref a) g1 hm rfl (okName_of o1).1) fun σ H Q' ⟨F, ρ, f', Q, xe, r, xo, w, k⟩ => ?_
  simp only [wpE] at w
  refine k (.ref a) F H (sh (fnD f)) ρ f' [] (.refl r) (Ow_sh.mpr ⟨rfl, ?_⟩) w
  unfold fnD
  simp only [Dv]
  exact .inl (.inr ⟨f, a, rfl, rfl, hn⟩)
theorem s_callL {i : Nat} {g : String} {x y : Str} {p p2 pos : Pos} (G : Gd fs Φ X W) (hf : g ∈ fs.defs) (hx : x = Str.ofString g) (hg : glB X.env.scope x = true) (hn : nameB X.env.scope X.N i y = true) :
    PE X (.Call (.Name x p) [.Name y p2] [] pos) (tE Φ X W (.callL g i)) := by
  subst hx
  obtain ⟨a, fd, kk, n, ps, hm, _, hk, hb, hl, hr, FO⟩ := G.fn g hf
  obtain ⟨g1, o1⟩ := glB_of hg
  refine PE.imp (pe_callS (E := fun σ => WE W σ) FO hr g1 hm hk hb (fun σ => passAt G.tk σ) (pa_cons (pe_nm hn) pa_nil rfl) (okName_of o1).1 rfl rfl) fun σ H Q' ⟨F, ρ, f, Q, xe, r, xo, w, k⟩ => ?_
  simp only [wpE] at w
  obtain ⟨e0, h0, hp, w⟩ := onO_some w
  obtain ⟨o, gg, f', h1, pm, ⟨v, rfl, ow⟩, r0⟩ := r.out (at_some h0)
  refine ⟨v, h1, ?_⟩
  have there : ∀ b, (F b ∨ b ∈ f) → H b ≠ none := fun b hb => hb.elim (r.there b) fun z => r.ne z
  have ogg : ∀ b ∈ gg, (F b ∨ b ∈ f) := fun b hb => .inr (pm.mem_iff.mpr (List.mem_append_left _ hb))
  rw [hp] at ow
  have dv : Dv X.K (fun b => F b ∨ b ∈ f) H e0.d v := Ow.give _ (fun b hb => .inl hb) _ _ _ _ ogg rfl ow
  refine ⟨by have := hl _ _ _ _ w; simpa using this, fun b => F b ∨ b ∈ f, [sh e0.d], [], [false], _, _, ⟨⟨[], [], rfl, ⟨v, rfl, Ow_sh.mpr ⟨rfl, dv⟩⟩, rfl⟩, by simp, by simp, there⟩, w, ?_, ?_⟩
  · intro e os es' F2 H2 f2 g2 u _ _ _ _ _ ou c q
    obtain ⟨hs, q⟩ := q
    have c2 : Chg F H F H2 [] := ⟨fun _ z => z, fun _ z => .inl z, fun b o z _ => c.keep b o z (by simp), c.dom⟩
    have r2 : Rep X.K F H2 σ ρ f := r.new c2 fun b hb => c.dom b (r.there b hb)
    have du : Dv X.K F H2 e.d u := Dv_scal hs (ou.scal hs)
    exact k u F H2 (sh e.d) ρ f [] ⟨r2, by simpa using r.nd, by simp, fun b hb => .inl (by simpa using hb), by simp, c2.weak (by simp)⟩ (Ow_sh.mpr ⟨rfl, du⟩) q
  · intro y F2 H2 cls d c th ex q
    have c2 : Chg F H F H2 [] := ⟨fun _ z => z, fun _ z => .inl z, fun b o z _ => c.keep b o z (by simp), c.dom⟩
    have r2 : Rep X.K F H2 σ ρ f := r.new c2 fun b hb => c.dom b (r.there b hb)
    have ex2 : ExR X.K X.mg F H2 y cls d := ex
    exact xo y ρ F H2 f cls d r2 (fun b hb => .inl hb) (c2.weak (by simp)) ex2 q
theorem s_callv {i : Nat} {gs : List String} {x : Str} {p pos : Pos} {e : Expr} {es0 : List Expr} {cs : Es} (G : Gd fs Φ X W) (hf : ∀ g ∈ gs, g ∈ fs.defs) (hN : X.N[i]? = some x) (hv : Vis X.env.scope x) (ho : okName x = true) (h : PA X (e :: es0) (tEs Φ X W cs))
    (he : starEach (e :: es0) X.env = (false, eval e X.env) :: starEach es0 X.env) (hpl : (backTo pos (starEach es0 X.env)).any (·.1) = false) : PE X (.Call (.Name x p) (e :: es0) [] pos) (tE Φ X W (.callv i gs cs)) := by
  refine ⟨fun pins s σ H Q' I ⟨F, ρ, f, Q, xe, r, xo, w, k⟩ => ?_⟩
  simp only [wpE] at w
  obtain ⟨e0, h0, hp, g, hg, ed, w⟩ := onO_some w
  obtain ⟨v, g0, h3, o⟩ := r.get h0
  rw [hp, ed] at o
  have o := (Ow_sh.mp o).2
  unfold fnD at o
  have o := Dv_dx o ⟨_, _, _, rfl, .inr ⟨_, rfl⟩⟩
  obtain ⟨f1, a, rfl, e1, hn1⟩ := o.resolve_left fun ⟨c0, a0, C0, _, _, _, z⟩ => by
    rcases z with ⟨z, _⟩ | ⟨_, _, _, z, _⟩ <;> simp [fnKv, excKv] at z
  have e1 : Str.ofString g = Str.ofString f1 := by simpa [fnKv] using e1
  obtain ⟨a', fd, kk, n, ps, hm, hn, hk, hb, hl, hr, FO⟩ := G.fn g (hf g hg)
  rw [e1, hn1] at hn
  cases hn
  have t : tE Φ X W (.call g cs) σ H Q' := ⟨F, ρ, f, Q, xe, r, xo, by simp only [wpE]; exact w, k⟩
  have t := i_call hl t
  refine wpAny_Call_Name_kw (thn ((pe_var hN hv (okName_of ho).1 (okName_of ho).2.1).run pins s σ H (fun v H1 => v = .ref a ∧ H1 = H) I ⟨_, h3, rfl, rfl⟩) fun u s0 ⟨v, H1, I1, ru, ev, eH⟩ => ?_)
  subst ev eH
  cases (show u = Value.ref a from ru)
  refine PySem.W.callWith_K (h₀ := X.base) I1.ok.mod.kin hk (thn (h.run pos pins s0 σ H1 _ I1 t) fun us s1 ⟨vs, H2, I2, rv, q⟩ => ⟨I2.kIn, ?_⟩) he hpl
  exact run_fnS FO hr hb (passAt G.tk σ) I2 rv q
end
end MS
namespace MS
open PySem PySem.Spec PyProof.Rows L2
section
variable {Φ : String → Spec} {X : Cx} {W : WX}
/-! ### list(range(..)), isinstance -/
theorem dvA_rg {K : PySem.W.Frag} {F : Addr → Prop} {H : Hp} (a b : Int) : DvA K F H (rgD a b) (rgV a b) := by
  unfold rgD rgV
  have : ∀ (l : List Nat), DvA K F H (l.map fun i => .int (a + (i : Nat))) (l.map fun i => V.int (a + (i : Nat))) := by
    intro l
    induction l with
    | nil => exact DvA_nil.mpr rfl
    | cons i l ih => exact DvA_cons.mpr ⟨_, _, rfl, dv_int, ih⟩
  exact this _
theorem s_lrg1 {a : Expr} {c : E} {x y : Str} {p pos p2 pos2 : Pos} (hc : X.calm = true) (hx : x = Str.ofString "range") (hg : Gl X x) (hm : X.mg x = none) (hy : y = Str.ofString "list") (hg2 : Gl X y) (hm2 : X.mg y = none) (h : PE X a (tA Φ X W c)) (hs : starEach [a] X.env = (false, eval a X.env) :: starEach [] X.env)
    (na : starEach [.Call (.Name x p) [a] [] pos] X.env = (false, eval (.Call (.Name x p) [a] [] pos) X.env) :: starEach [] X.env) : PE X (.Call (.Name y p2) [.Call (.Name x p) [a] [] pos] [] pos2) (tE Φ X W (.prim .lrg1 (.cons c .nil))) := by
  subst hx hy
  refine PE.imp (pe_listRg hc hg2 hm2 (prg_1 hg hm h hs) na) fun σ H Q' ⟨F, ρ, f, Q, xe, r, x, w, k⟩ => ?_
  simp only [wpE] at w
  refine one_arg' r x w fun v1 F2 H2 ρ2 f2 as fin q he => ?_
  obtain ⟨es, e1, q⟩ := onO_some q
  obtain ⟨x1, g1, rfl, o1⟩ := he es e1
  obtain ⟨p1, d1⟩ := x1
  cases d1 <;> first | exact q.elim | skip
  rename_i n
  obtain ⟨hr, q⟩ := q
  refine ⟨n, o1.int, hr, fun p hp => ?_⟩
  obtain ⟨e, g, fin', o, q'⟩ := fin.res (res_lst (Q := fun e => Q e ρ2) hp (dvA_rg 0 n) q)
  exact k _ F2 _ e ρ2 f2 g fin' o q'
theorem s_lrg2 {a b : Expr} {c1 c2 : E} {x y : Str} {p pos p2 pos2 : Pos} (hc : X.calm = true) (hx : x = Str.ofString "range") (hg : Gl X x) (hm : X.mg x = none) (hy : y = Str.ofString "list") (hg2 : Gl X y) (hm2 : X.mg y = none) (h : PE X a (tA Φ X W c1)) (h2 : PE X b (tA Φ X W c2)) (hsb : starEach [b] X.env = (false, eval b X.env) :: starEach [] X.env) (hs : starEach [a, b] X.env = (false, eval a X.env) :: starEach [b] X.env)
    (na : starEach [.Call (.Name x p) [a, b] [] pos] X.env = (false, eval (.Call (.Name x p) [a, b] [] pos) X.env) :: starEach [] X.env) : PE X (.Call (.Name y p2) [.Call (.Name x p) [a, b] [] pos] [] pos2) (tE Φ X W (.prim .lrg2 (.cons c1 (.cons c2 .nil)))) := by
  subst hx hy
  refine PE.imp (pe_listRg hc hg2 hm2 (prg_2 hg hm h h2 hs hsb (by rw [hsb]; rfl)) na) fun σ H Q' ⟨F, ρ, f, Q, xe, r, x, w, k⟩ => ?_
  simp only [wpE] at w
  refine two_args r x w fun v1 v2 F2 H2 ρ2 f2 as fin q he => ?_
  obtain ⟨es, e1, q⟩ := onO_some q
  obtain ⟨x1, x2, g1, g2, rfl, o1, o2⟩ := he es e1
  obtain ⟨p1, d1⟩ := x1
  obtain ⟨p2, d2⟩ := x2
  cases d1 <;> first | exact q.elim | skip
  cases d2 <;> first | exact q.elim | skip
  rename_i n m
  obtain ⟨hr, q⟩ := q
  refine ⟨n, m, o1.int, o2.int, hr, fun p hp => ?_⟩
  obtain ⟨e, g, fin', o, q'⟩ := fin.res (res_lst (Q := fun e => Q e ρ2) hp (dvA_rg n m) q)
  exact k _ F2 _ e ρ2 f2 g fin' o q'
theorem s_lrgW {a b : Expr} {c1 c2 : E} {x y : Str} {p pos p2 pos2 : Pos} (hc : X.calm = true) (hx : x = Str.ofString "range") (hg : Gl X x) (hm : X.mg x = none) (hy : y = Str.ofString "list") (hg2 : Gl X y) (hm2 : X.mg y = none) (h : PE X a (tA Φ X W c1)) (h2 : PE X b (tA Φ X W c2)) (hsb : starEach [b] X.env = (false, eval b X.env) :: starEach [] X.env) (hs : starEach [a, b] X.env = (false, eval a X.env) :: starEach [b] X.env)
    (na : starEach [.Call (.Name x p) [a, b] [] pos] X.env = (false, eval (.Call (.Name x p) [a, b] [] pos) X.env) :: starEach [] X.env) : PE X (.Call (.Name y p2) [.Call (.Name x p) [a, b] [] pos] [] pos2) (tE Φ X W (.prim .lrgW (.cons c1 (.cons c2 .nil)))) := by
  subst hx hy
  refine PE.imp (pe_listRgW hc hg2 hm2 (prg_2 hg hm h h2 hs hsb (by rw [hsb]; rfl)) na) fun σ H Q' ⟨F, ρ, f, Q, xe, r, x, w, k⟩ => ?_
  simp only [wpE] at w
  refine two_args r x w fun v1 v2 F2 H2 ρ2 f2 as fin q he => ?_
  obtain ⟨es, e1, q⟩ := onO_some q
  obtain ⟨x1, x2, g1, g2, rfl, o1, o2⟩ := he es e1
  obtain ⟨p1, d1⟩ := x1
  obtain ⟨p2, d2⟩ := x2
  cases d1 <;> first | exact q.elim | skip
  cases d2 <;> first | exact q.elim | skip
  rename_i n m
  obtain ⟨hr, q⟩ := q
  refine ⟨n, m, o1.int, o2.int, hr, fun p hp => ?_⟩
  obtain ⟨e, g, fin', o, q'⟩ := fin.res (res_lst (Q := fun e => Q e ρ2) hp (dvA_rg n m) q)
  exact k _ F2 _ e ρ2 f2 g fin' o q'
theorem s_trg1 {a : Expr} {c : E} {x y : Str} {p pos p2 pos2 : Pos} (hc : X.calm = true) (hx : x = Str.ofString "range") (hg : Gl X x) (hm : X.mg x = none) (hy : y = Str.ofString "tuple") (hg2 : Gl X y) (hm2 : X.mg y = none) (h : PE X a (tA Φ X W c)) (hs : starEach [a] X.env = (false, eval a X.env) :: starEach [] X.env)
    (na : starEach [.Call (.Name x p) [a] [] pos] X.env = (false, eval (.Call (.Name x p) [a] [] pos) X.env) :: starEach [] X.env) : PE X (.Call (.Name y p2) [.Call (.Name x p) [a] [] pos] [] pos2) (tE Φ X W (.prim .trg1 (.cons c .nil))) := by
  subst hx hy
  refine PE.imp (pe_tupRg hc hg2 hm2 (prg_1 hg hm h hs) na) fun σ H Q' ⟨F, ρ, f, Q, xe, r, x, w, k⟩ => ?_
  simp only [wpE] at w
  refine one_arg' r x w fun v1 F2 H2 ρ2 f2 as fin q he => ?_
  obtain ⟨es, e1, q⟩ := onO_some q
  obtain ⟨x1, g1, rfl, o1⟩ := he es e1
  obtain ⟨p1, d1⟩ := x1
  cases d1 <;> first | exact q.elim | skip
  rename_i n
  obtain ⟨hr, q⟩ := q
  refine ⟨n, o1.int, hr, fun p hp => ?_⟩
  obtain ⟨e, g, fin', o, q'⟩ := fin.res (res_tup (Q := fun e => Q e ρ2) hp (dvA_rg 0 n) q)
  exact k _ F2 _ e ρ2 f2 g fin' o q'
theorem s_trg2 {a b : Expr} {c1 c2 : E} {x y : Str} {p pos p2 pos2 : Pos} (hc : X.calm = true) (hx : x = Str.ofString "range") (hg : Gl X x) (hm : X.mg x = none) (hy : y = Str.ofString "tuple") (hg2 : Gl X y) (hm2 : X.mg y = none) (h : PE X a (tA Φ X W c1)) (h2 : PE X b (tA Φ X W c2)) (hsb : starEach [b] X.env = (false, eval b X.env) :: starEach [] X.env) (hs : starEach [a, b] X.env = (false, eval a X.env) :: starEach [b] X.env)
    (na : starEach [.Call (.Name x p) [a, b] [] pos] X.env = (false, eval (.Call (.Name x p) [a, b] [] pos) X.env) :: starEach [] X.env) : PE X (.Call (.Name y p2) [.Call (.Name x p) [a, b] [] pos] [] pos2) (tE Φ X W (.prim .trg2 (.cons c1 (.cons c2 .nil)))) := by
  subst hx hy
  refine PE.imp (pe_tupRg hc hg2 hm2 (prg_2 hg hm h h2 hs hsb (by rw [hsb]; rfl)) na) fun σ H Q' ⟨F, ρ, f, Q, xe, r, x, w, k⟩ => ?_
  simp only [wpE] at w
  refine two_args r x w fun v1 v2 F2 H2 ρ2 f2 as fin q he => ?_
  obtain ⟨es, e1, q⟩ := onO_some q
  obtain ⟨x1, x2, g1, g2, rfl, o1, o2⟩ := he es e1
  obtain ⟨p1, d1⟩ := x1
  obtain ⟨p2, d2⟩ := x2
  cases d1 <;> first | exact q.elim | skip
  cases d2 <;> first | exact q.elim | skip
  rename_i n m
  obtain ⟨hr, q⟩ := q
  refine ⟨n, m, o1.int, o2.int, hr, fun p hp => ?_⟩
  obtain ⟨e, g, fin', o, q'⟩ := fin.res (res_tup (Q := fun e => Q e ρ2) hp (dvA_rg n m) q)
  exact k _ F2 _ e ρ2 f2 g fin' o q'
theorem kit_all : ∀ n ∈ ["NoneType", "bool", "int", "str", "list", "tuple"], ∀ t ∈ ["bool", "int", "tuple", "list", "str"], kitB n t = some (t == n || (t == "int" && n == "bool")) := by decide +kernel
theorem tyX_of {K : PySem.W.Frag} {F : Addr → Prop} {H : Hp} {d : D} {p : Perm} {v : V} {g : List Addr} (hd : isDct d = false) (o : Ow K F H d p v g) : TyX K H v (.type (tyName d)) ∧ tyName d ∈ ["NoneType", "bool", "int", "str", "list", "tuple"] := by
  cases d with
  | none => have := o.scal rfl; simp only [Dv] at this; subst this; exact ⟨.base .non, by simp [tyName]⟩
  | bool b => rw [o.bl]; exact ⟨.base (.bl b), by simp [tyName]⟩
  | int b => rw [o.int]; exact ⟨.base (.int b), by simp [tyName]⟩
  | str b => have := o.scal rfl; simp only [Dv] at this; subst this; exact ⟨.base (.str b), by simp [tyName]⟩
  | tuple ds =>
    obtain ⟨a, xs, rfl, h, _⟩ := o.tup
    refine ⟨?_, by simp [tyName]⟩
    rcases h with (h | ⟨ob, h⟩) | ⟨ob, its, n, h, hc, _⟩
    · exact .base (.tup h)
    · exact .fTuple h
    · exact .kTuple h hc
  | list ds =>
    obtain ⟨a, xs, _, rfl, h, _⟩ := o.list
    refine ⟨?_, by simp [tyName]⟩
    rcases h with (h | ⟨ob, h⟩) | ⟨ob, its, n, h, hc, _⟩
    · exact .base (.lst h)
    · exact .base (.frz h)
    · exact .kList h hc
  | dict _ => exact Bool.noConfusion (hd : true = false)
theorem s_isi {a : Expr} {c : E} {t : String} {x y : Str} {p pos p2 : Pos} (ht : t ∈ ["bool", "int", "tuple", "list", "str"]) (hx : x = Str.ofString "isinstance") (hg : Gl X x) (hm : X.mg x = none) (hy : y = Str.ofString t) (hg2 : Gl X y) (hm2 : X.mg y = none) (ho : okName y = true) (h : PE X a (tA Φ X W c))
    (hs : starEach [a, .Name y p2] X.env = (false, eval a X.env) :: starEach [.Name y p2] X.env) : PE X (.Call (.Name x p) [a, .Name y p2] [] pos) (tE Φ X W (.prim (.isi t) (.cons c .nil))) := by
  subst hx hy
  have hv : bootBuiltins (Str.ofString t) = some (.type t) := by
    have : ∀ t ∈ ["bool", "int", "tuple", "list", "str"], bootBuiltins (Str.ofString t) = some (.type t) := by decide +kernel
    exact this t ht
  have h2 : PE X (.Name (Str.ofString t) p2) (tC (.ty t)) := pe_bltn hg2 hm2 hv rfl (okName_of ho).2.2 (okName_of ho).1
  refine PE.imp (pe_callB (callR_cl call_isi) hg hm boot_isinstance (pa_cons h (pa_cons h2 pa_nil rfl) hs) (he := hs) (hpl := rfl)) fun σ H Q' ⟨F, ρ, f, Q, xe, r, x, w, k⟩ => ?_
  simp only [wpE] at w
  refine one_arg' (r0 := fun v H2 => tCons (tC (.ty t)) tNil σ H2 fun xs H3 => ∃ Q0, rIsi X.K (v :: xs) H3 Q0 ∧ ∀ v H', Q0 v H' → Q' v H') r x w fun v1 F2 H2 ρ2 f2 as fin q he => ?_
  obtain ⟨es, e1, q⟩ := onO_some q
  obtain ⟨x1, g1, rfl, o1⟩ := he es e1
  obtain ⟨nd, q⟩ := q
  obtain ⟨ty, hn⟩ := tyX_of nd o1
  refine ⟨Res X.K F2 H2 fun e => Q e ρ2, ⟨v1, .ty t, _, _, isTy t x1.d, rfl, .ty t, ty, kit_ty (kit_all _ hn t ht), res_sh (Q := fun e => Q e ρ2) dv_bl q⟩, fun v H' z => ?_⟩
  obtain ⟨e, g, fin', o, q'⟩ := fin.res z
  exact k v F2 H' e ρ2 f2 g fin' o q'

/-! ### what stars there are: none -/
theorem star_of {e : Expr} {es : List Expr} {env : Env} (h : notStar e = true) : starEach (e :: es) env = (false, eval e env) :: starEach es env := by
  cases e <;> first | rfl | exact absurd h (by simp [notStar])
theorem any_of {env : Env} {pos : Pos} : ∀ {es : List Expr}, es.all notStar = true → (backTo pos (starEach es env)).any (·.1) = false
  | [], _ => rfl
  | e :: es, h => by
    rw [List.all_cons, Bool.and_eq_true] at h
    rw [star_of h.1]
    exact any_of h.2
theorem okEs_star {fs : Fs} {N : List Str} {sc : Scope} : ∀ {cs : Es} {es : List Expr}, okEs fs N sc cs es = true → es.all notStar = true
  | .nil, [], _ => rfl
  | .cons c cs, e :: es, h => by
    have h' : notStar e = true ∧ okEs fs N sc cs es = true := by
      cases c <;> simp only [okEs, Bool.and_eq_true] at h <;> first | exact ⟨h.1.1, h.2⟩ | exact h
    rw [List.all_cons, h'.1, okEs_star h'.2]; rfl
  | .nil, _ :: _, h => by simp [okEs] at h
  | .cons _ _, [], h => by simp [okEs] at h
theorem plainIx_of {b : Expr} (h : isSlice b = false) : PlainIx b := by
  intro o i
  cases b <;> first | rfl | exact absurd h (by simp [isSlice])
theorem behind_of {op : CmpOp} {b : Expr} (h : notSet b = true) : behindInMarks op b = false := by
  cases b <;> first | rfl | exact absurd h (by simp [notSet])
theorem folded_of {e : Expr} {env : Env} (h : notSet e = true) (x : Value) : foldedSetIterable e env x = pure x := by
  cases e <;> first | rfl | exact absurd h (by simp [notSet])
theorem bltB_of {s : String} {x : Str} (h : bltB X.env.scope s x = true) : x = Str.ofString s ∧ Gl X x ∧ okName x = true := by
  unfold bltB at h
  simp only [Bool.and_eq_true, decide_eq_true_eq] at h
  exact ⟨h.1, glB_of h.2⟩
theorem boot_1 : ∀ s ∈ ["len", "abs", "max", "min", "sum", "sorted", "all"], bootBuiltins (Str.ofString s) = some (.builtin s) := by decide +kernel
theorem boot_2 : ∀ s ∈ ["tuple", "list", "int"], bootBuiltins (Str.ofString s) = some (.type s) := by decide +kernel
/-- what is shown of a core text and its program text -/
structure SE (Φ : String → Spec) (X : Cx) (W : WX) (c : E) (e : Expr) : Prop where
  pe : PE X e (tE Φ X W c)
  pt : notIf e = true → PT X e (tTst Φ X W c)
  pw : ∀ op xs pos, e = .BoolOp op xs pos → PW X e (tTst Φ X W c)
/-- one whose truth is its value's -/
theorem se_val {c : E} {e : Expr} (h : PE X e (tE Φ X W c)) (he : ∀ whole, isTrue e X.env whole = (do let v ← whole; standAt e.pos; holding [v] (truthy v))) (hb : ∀ op xs pos, e ≠ .BoolOp op xs pos) : SE Φ X W c e :=
  ⟨h, fun _ => pt_of h he, fun op xs pos z => absurd z (hb op xs pos)⟩
theorem c_any {id : String} {p : Prim} {pf : List Ety → (Ety → Prop) → Prop} (h : CallOk X (.builtin id) pf) (hp : ∀ es Q, wpP p es Q → pf es Q) : CallOk X (.builtin id) (wpP p) := by
  obtain ⟨r, h1, h2⟩ := h
  exact ⟨r, h1, fun F H es vs Q a q => h2 F H es vs Q a (hp _ _ q)⟩
theorem prim_call1 {p : Prim} {s : String} (hc : hotP p = true → X.calm = true) (h : call1 p = some s) : (s ∈ ["len", "abs", "max", "min", "sum", "sorted", "all"] ∧ CallOk X (.builtin s) (wpP p)) ∨ (s ∈ ["tuple", "list", "int"] ∧ CallOk X (.type s) (wpP p)) := by
  cases p <;> simp only [call1, Option.some.injEq, reduceCtorEq] at h <;> subst h
  · exact .inl ⟨by decide, c_len⟩
  · exact .inr ⟨by decide, c_tuple⟩
  · exact .inr ⟨by decide, c_list⟩
  · exact .inl ⟨by decide, c_abs⟩
  · exact .inl ⟨by decide, c_max1 (hc rfl)⟩
  · exact .inl ⟨by decide, c_min1 (hc rfl)⟩
  · exact .inl ⟨by decide, c_sum (hc rfl)⟩
  · exact .inl ⟨by decide, c_sorted⟩
  · exact .inr ⟨by decide, c_int⟩
  · exact .inl ⟨by decide, c_all (hc rfl)⟩
theorem prim_call2 {p : Prim} {s : String} (hc : hotP p = true → X.calm = true) (h : call2 p = some s) : s ∈ ["len", "abs", "max", "min", "sum", "sorted", "all"] ∧ CallOk X (.builtin s) (wpP p) := by
  cases p <;> simp only [call2, Option.some.injEq, reduceCtorEq] at h <;> subst h
  · exact ⟨by decide, c_max2 (hc rfl)⟩
  · exact ⟨by decide, c_min2 (hc rfl)⟩
theorem prim_bin {p : Prim} {op : Operator} (h : binOp p = some op) : BinOk X (binaryOp op) (wpP p) := by
  cases p <;> simp only [binOp, Option.some.injEq, reduceCtorEq] at h <;> subst h
  · exact b_add
  · exact b_sub
  · exact b_mul
  · exact b_fdiv
  · exact b_mod
  · exact b_pow
  · exact b_shl
theorem prim_cmp (hu : X.A.units + 65 < cLine) {p : Prim} {op : CmpOp} (h : cmpOp p = some op) : BinOk X (compareOp op) (wpP p) := by
  cases p <;> simp only [cmpOp, Option.some.injEq, reduceCtorEq] at h <;> subst h
  · exact b_eq (by omega)
  · exact b_ne (by omega)
  · exact b_lt (by omega)
  · exact b_le (by omega)
  · exact bin_ib op_gt
  · exact bin_ib op_ge
  · exact b_in hu
  · exact b_notin hu
  · exact b_isB
  · exact b_notB

theorem isBool_fz {v : Ety} {f : Bool → Prop} : isBool ⟨v.p.fz, v.d⟩ f = isBool v f := by
  obtain ⟨p, d⟩ := v
  cases d <;> rfl
theorem tTst_frz {c : E} {σ : L2.St} {H : Hp} {Q' : Bool → Hp → Prop} (h : tTst Φ X W (.frz c) σ H Q') : tTst Φ X W c σ H Q' := by
  obtain ⟨F, ρ, f, Q, xe, r, x, w, k⟩ := h
  simp only [wpE, isBool_fz] at w
  exact ⟨F, ρ, f, Q, xe, r, x, w, k⟩
/-- what is shown of a row -/
def SEs (Φ : String → Spec) (X : Cx) (W : WX) : Es → List Expr → Prop
  | .nil, [] => True
  | .cons c cs, e :: es => notStar e = true ∧ PE X e (tA Φ X W c) ∧ SEs Φ X W cs es
  | _, _ => False
theorem SEs.star : ∀ {cs : Es} {es : List Expr}, SEs Φ X W cs es → es.all notStar = true
  | .nil, [], _ => rfl
  | .cons c cs, e :: es, h => by rw [List.all_cons, h.1, SEs.star h.2.2]; rfl
  | .nil, _ :: _, h => h.elim
  | .cons _ _, [], h => h.elim
theorem SEs.pa : ∀ {cs : Es} {es : List Expr}, SEs Φ X W cs es → PA X es (tEs Φ X W cs)
  | .nil, [], _ => s_es_nil
  | .cons c cs, e :: es, h => s_es_cons h.2.1 (SEs.pa h.2.2) (star_of h.1)
  | .nil, _ :: _, h => h.elim
  | .cons _ _, [], h => h.elim
theorem SEs.one {cs : Es} {a : Expr} (h : SEs Φ X W cs [a]) : ∃ c, cs = .cons c .nil ∧ notStar a = true ∧ PE X a (tA Φ X W c) := by
  match cs, h with
  | .cons c .nil, h => exact ⟨c, rfl, h.1, h.2.1⟩
  | .cons c (.cons _ _), h => exact h.2.2.elim
  | .nil, h => exact h.elim
theorem SEs.two {cs : Es} {a b : Expr} (h : SEs Φ X W cs [a, b]) : ∃ c d, cs = .cons c (.cons d .nil) ∧ notStar a = true ∧ PE X a (tA Φ X W c) ∧ notStar b = true ∧ PE X b (tA Φ X W d) := by
  match cs, h with
  | .cons c (.cons d .nil), h => exact ⟨c, d, rfl, h.1, h.2.1, h.2.2.1, h.2.2.2.1⟩
  | .cons c (.cons _ (.cons _ _)), h => exact h.2.2.2.2.elim
  | .cons c .nil, h => exact h.2.2.elim
  | .nil, h => exact h.elim
theorem se_both {c : E} {e : Expr} (h : PE X e (tE Φ X W c) ∧ PT X e (tTst Φ X W c)) (hb : ∀ op xs pos, e ≠ .BoolOp op xs pos) : SE Φ X W c e :=
  ⟨h.1, fun _ => h.2, fun op xs pos z => absurd z (hb op xs pos)⟩
theorem mem_blts1 : ∀ s ∈ ["len", "abs", "max", "min", "sum", "sorted", "all"], s ∈ blts := by decide
theorem mem_blts2 : ∀ s ∈ ["tuple", "list", "int"], s ∈ blts := by decide
theorem mem_blts3 : ∀ s ∈ ["bool", "int", "tuple", "list", "str"], s ∈ blts := by decide
theorem prim_ok {fs : Fs} {p : Prim} {as : Es} {e : Expr} {es : List Expr} (G : Gd fs Φ X W) (hh : (fs.calm || !hotP p) = true) (h : parts X.env.scope p e = some es) (s : SEs Φ X W as es) : SE Φ X W (.prim p as) e := by
  have hcl : hotP p = true → X.calm = true := fun z => G.calm (by rw [z] at hh; simpa using hh)
  unfold parts at h
  split at h
  · split at h
    · rename_i hb
      cases h
      obtain ⟨c, d, rfl, n1, h1, n2, h2⟩ := s.two
      exact se_val (s_bin (prim_bin hb) h1 h2) (fun _ => rfl) (fun _ _ _ => nofun)
    · cases h
  · split at h
    · rename_i hp
      cases h
      subst hp
      obtain ⟨c, rfl, n1, h1⟩ := s.one
      exact se_val (s_un u_neg h1) (fun _ => rfl) (fun _ _ _ => nofun)
    · cases h
  · split at h
    · split at h
      · rename_i ho
        subst ho
        split at h
        · cases h
          obtain ⟨c, rfl, n1, h1⟩ := s.one
          exact se_both (s_cmpN (p := .isN) b_isN (fun e1 e2 Q he q => by
            obtain ⟨p2, d2⟩ := e2
            cases he
            exact q) h1) (fun _ _ _ => nofun)
        · cases h
      · cases h
    · split at h
      · rename_i ho
        subst ho
        split at h
        · cases h
          obtain ⟨c, rfl, n1, h1⟩ := s.one
          exact se_both (s_cmpN (p := .notN) b_notN (fun e1 e2 Q he q => by
            obtain ⟨p2, d2⟩ := e2
            cases he
            exact q) h1) (fun _ _ _ => nofun)
        · cases h
      · cases h
    · split at h
      · rename_i hb
        cases h
        simp only [Bool.and_eq_true, beq_iff_eq] at hb
        obtain ⟨c, d, rfl, n1, h1, n2, h2⟩ := s.two
        exact se_both (s_cmp (prim_cmp G.hu (of_decide_eq_true hb.1)) (behind_of hb.2) h1 h2) (fun _ _ _ => nofun)
      · cases h
  · split at h
    · split at h
      · cases h
      · rename_i hb
        cases h
        obtain ⟨c, d, rfl, n1, h1, n2, h2⟩ := s.two
        exact se_val (s_ix (plainIx_of (by simpa using hb)) h1 h2) (fun _ => rfl) (fun _ _ _ => nofun)
    · split at h
      · cases h
      · rename_i hb
        cases h
        obtain ⟨c, d, rfl, n1, h1, n2, h2⟩ := s.two
        exact se_val (s_ixr (plainIx_of (by simpa using hb)) h1 h2) (fun _ => rfl) (fun _ _ _ => nofun)
    · split at h
      · cases h
        obtain ⟨c, d, rfl, n1, h1, n2, h2⟩ := s.two
        exact se_val (s_sl1 h1 h2) (fun _ => rfl) (fun _ _ _ => nofun)
      · cases h
    · split at h
      · cases h
        obtain ⟨c, d, rfl, n1, h1, n2, h2⟩ := s.two
        exact se_val (s_sl2 h1 h2) (fun _ => rfl) (fun _ _ _ => nofun)
      · cases h
    · split at h
      · cases h
        obtain ⟨c, rfl, n1, h1⟩ := s.one
        exact se_val (s_sl0 h1) (fun _ => rfl) (fun _ _ _ => nofun)
      · cases h
    · split at h
      · cases h
        obtain ⟨c, rfl, n1, h1⟩ := s.one
        exact se_val (s_bk h1) (fun _ => rfl) (fun _ _ _ => nofun)
      · cases h
    · cases h
  · split at h
    · split at h
      · rename_i hx
        obtain ⟨rfl, g1, o1⟩ := bltB_of hx
        split at h
        · split at h
          · rename_i hy
            obtain ⟨rfl, g2, o2⟩ := bltB_of hy
            cases h
            obtain ⟨c, rfl, n1, h1⟩ := s.one
            exact se_val (s_lrg1 (hcl rfl) rfl g2 (G.blt _ (by decide)) rfl g1 (G.blt _ (by decide)) h1 (star_of n1) rfl) (fun _ => rfl) (fun _ _ _ => nofun)
          · cases h
        · cases h
      · cases h
    · split at h
      · rename_i hx
        obtain ⟨rfl, g1, o1⟩ := bltB_of hx
        split at h
        · split at h
          · rename_i hy
            obtain ⟨rfl, g2, o2⟩ := bltB_of hy
            cases h
            obtain ⟨c, d, rfl, n1, h1, n2, h2⟩ := s.two
            exact se_val (s_lrg2 (hcl rfl) rfl g2 (G.blt _ (by decide)) rfl g1 (G.blt _ (by decide)) h1 h2 (star_of n2) (star_of n1) rfl) (fun _ => rfl) (fun _ _ _ => nofun)
          · cases h
        · cases h
      · cases h
    · split at h
      · rename_i hx
        obtain ⟨rfl, g1, o1⟩ := bltB_of hx
        split at h
        · split at h
          · rename_i hy
            obtain ⟨rfl, g2, o2⟩ := bltB_of hy
            cases h
            obtain ⟨c, d, rfl, n1, h1, n2, h2⟩ := s.two
            exact se_val (s_lrgW (hcl rfl) rfl g2 (G.blt _ (by decide)) rfl g1 (G.blt _ (by decide)) h1 h2 (star_of n2) (star_of n1) rfl) (fun _ => rfl) (fun _ _ _ => nofun)
          · cases h
        · cases h
      · cases h
    · split at h
      · rename_i hx
        obtain ⟨rfl, g1, o1⟩ := bltB_of hx
        split at h
        · split at h
          · rename_i hy
            obtain ⟨rfl, g2, o2⟩ := bltB_of hy
            cases h
            obtain ⟨c, rfl, n1, h1⟩ := s.one
            exact se_val (s_trg1 (hcl rfl) rfl g2 (G.blt _ (by decide)) rfl g1 (G.blt _ (by decide)) h1 (star_of n1) rfl) (fun _ => rfl) (fun _ _ _ => nofun)
          · cases h
        · cases h
      · cases h
    · split at h
      · rename_i hx
        obtain ⟨rfl, g1, o1⟩ := bltB_of hx
        split at h
        · split at h
          · rename_i hy
            obtain ⟨rfl, g2, o2⟩ := bltB_of hy
            cases h
            obtain ⟨c, d, rfl, n1, h1, n2, h2⟩ := s.two
            exact se_val (s_trg2 (hcl rfl) rfl g2 (G.blt _ (by decide)) rfl g1 (G.blt _ (by decide)) h1 h2 (star_of n2) (star_of n1) rfl) (fun _ => rfl) (fun _ _ _ => nofun)
          · cases h
        · cases h
      · cases h
    · split at h
      · rename_i s0 hs0
        split at h
        · rename_i hx
          obtain ⟨rfl, g1, o1⟩ := bltB_of hx
          cases h
          have st := s.star
          rw [List.all_cons, Bool.and_eq_true] at st
          rcases prim_call1 hcl hs0 with ⟨hm, hc⟩ | ⟨hm, hc⟩
          · exact se_val (s_callB hc g1 (G.blt _ (mem_blts1 _ hm)) (boot_1 _ hm) s.pa o1 (star_of st.1) (any_of st.2)) (fun _ => rfl) (fun _ _ _ => nofun)
          · exact se_val (s_callT hc g1 (G.blt _ (mem_blts2 _ hm)) (boot_2 _ hm) s.pa o1 (star_of st.1) (any_of st.2)) (fun _ => rfl) (fun _ _ _ => nofun)
        · cases h
      · cases h
  · split at h
    · split at h
      · split at h
        · rename_i hx
          simp only [Bool.and_eq_true] at hx
          obtain ⟨⟨hx1, hx2⟩, hx3⟩ := hx
          obtain ⟨rfl, g1, o1⟩ := bltB_of hx2
          obtain ⟨rfl, g2, o2⟩ := bltB_of hx3
          cases h
          obtain ⟨c, rfl, n1, h1⟩ := s.one
          have hm := List.contains_iff_mem.mp hx1
          exact se_val (s_isi hm rfl g1 (G.blt _ (by decide)) rfl g2 (G.blt _ (mem_blts3 _ hm)) o2 h1 (star_of n1)) (fun _ => rfl) (fun _ _ _ => nofun)
        · cases h
      · cases h
    · split at h
      · rename_i s0 hs0
        split at h
        · rename_i hx
          obtain ⟨rfl, g1, o1⟩ := bltB_of hx
          cases h
          have st := s.star
          rw [List.all_cons, Bool.and_eq_true] at st
          obtain ⟨hm, hc⟩ := prim_call2 hcl hs0
          exact se_val (s_callB hc g1 (G.blt _ (mem_blts1 _ hm)) (boot_1 _ hm) s.pa o1 (star_of st.1) (any_of st.2)) (fun _ => rfl) (fun _ _ _ => nofun)
        · cases h
      · cases h
  · cases h
/-! ### what was caught: its class, its place -/
/-- a class by its name -/
theorem cls_val {fs : Fs} {c : String} {x : Str} {p : Pos} (G : Gd fs Φ X W) (hx : x = Str.ofString c) (hg : glB X.env.scope x = true) (hc : fs.cls.contains c = true ∨ c = "ValueError") :
    ∃ cv u, PE X (.Name x p) (tC cv) ∧ ClsV cv u ∧ ∀ c0 ∈ allC, ∀ C, PySem.W.nsIn X.K mainGlobals (Str.ofString c0) = some (some (.ref C)) → PySem.W.kitOne X.K (.ref C) u = some (subX c0 c) := by
  obtain ⟨g1, o1⟩ := glB_of hg
  subst hx
  by_cases hm : fs.cls.contains c = true
  · have hm := List.contains_iff_mem.mp hm
    obtain ⟨D, T⟩ := G.exc.one c hm
    exact ⟨.ref D, .ref D, pe_glob g1 T.mg rfl (okName_of o1).1, .own D, fun c0 h0 C hC => (G.exc.two c0 (G.exc.mem h0 hC) c hm C D hC T.ns).2⟩
  · have hv := hc.resolve_left hm
    subst hv
    refine ⟨.ty "ValueError", .type "ValueError", pe_bltn g1 (G.blt _ (by decide)) (by decide +kernel) rfl (okName_of o1).2.2 (okName_of o1).1, .ty _, fun c0 h0 C hC => ?_⟩
    have := (G.exc.at_ h0 hC).ve
    rw [this]
    simp [subX]
theorem cls_vals {fs : Fs} (G : Gd fs Φ X W) : ∀ {cs : List String} {es : List Expr}, okC fs X.env.scope cs es = true →
    ∃ cvs us t, PA X es t ∧ Paired ClsV cvs us ∧ (∀ σ H Q, Q cvs H → t σ H Q) ∧ cvs.length = cs.length ∧ (∀ c0 ∈ allC, ∀ C, PySem.W.nsIn X.K mainGlobals (Str.ofString c0) = some (some (.ref C)) → PySem.W.kitAny X.K (.ref C) us = some (cs.any (subX c0)))
  | [], [], _ => ⟨[], [], tNil, pa_nil, .nil, fun _ _ _ q => q, rfl, fun _ _ _ _ => rfl⟩
  | c :: cs, e :: es, h => by
    unfold okC at h; split at h <;> first | contradiction | skip
    rename_i h1 h2
    cases h1; cases h2
    simp only [Bool.and_eq_true, decide_eq_true_eq, Bool.or_eq_true, beq_iff_eq] at h
    obtain ⟨⟨⟨h1, h2⟩, h3⟩, h4⟩ := h
    obtain ⟨cv, u, k1, k2, k3⟩ := cls_val G h1 h2 h3
    obtain ⟨cvs, us, t, j1, j2, j3, j4, j5⟩ := cls_vals G h4
    refine ⟨cv :: cvs, u :: us, _, pa_cons k1 j1 rfl, .cons k2 j2, fun σ H Q q => j3 _ _ _ q, by simp [j4], fun c0 h0 C hC => ?_⟩
    refine kitAny_cons (k3 c0 h0 C hC) (fun z => ?_) (fun z => ?_)
    · rw [List.any_cons, z, Bool.false_or]; exact j5 c0 h0 C hC
    · rw [List.any_cons, z, Bool.true_or]
  | [], _ :: _, h => by unfold okC at h; contradiction
  | _ :: _, [], h => by unfold okC at h; contradiction
theorem dv_exc {K : PySem.W.Frag} {F : Addr → Prop} {H : Hp} {d : D} {v : V} {c : String} (o : Dv K F H d v) (h : exCls d = some c) :
    ∃ c0 a C, v = .ref a ∧ c0 ∈ allC ∧ PySem.W.nsIn K mainGlobals (Str.ofString c0) = some (some (.ref C)) ∧ XAt H a C ∧ c0 = c := by
  obtain ⟨kvs, rfl⟩ : ∃ kvs, d = .dict kvs := by
    unfold exCls at h
    split at h
    · exact ⟨_, rfl⟩
    · cases h
  have o : DvX K H kvs v := Dv_dx o (by
    unfold exCls at h
    split at h
    · rename_i heq; cases heq; exact ⟨_, _, _, rfl, .inl rfl⟩
    · cases h)
  replace o := o.resolve_right fun ⟨f0, a0, _, z, _⟩ => by rw [z] at h; simp [exCls, fnKv] at h
  obtain ⟨c0, a, C, e, h0, hC, at_, inj⟩ := o.at_
  refine ⟨c0, a, C, e, h0, hC, at_, ?_⟩
  obtain ⟨c1, a1, C1, e1, h1, hC1, ⟨ek, _⟩ | ⟨i, dd, e2, ek, _⟩⟩ := o
  · subst ek
    have q : exCls (excD ⟨c1, []⟩) = some c1 := exCls_kv h1
    have i1 : c1 = c0 := inj ⟨c1, []⟩ rfl
    exact i1.symm.trans (Option.some.inj (q.symm.trans h))
  · subst ek
    have q : exCls (excD ⟨c1, [("place", .int i)]⟩) = some c1 := exCls_kv h1
    have i1 : c1 = c0 := inj ⟨c1, [("place", .int i)]⟩ rfl
    exact i1.symm.trans (Option.some.inj (q.symm.trans h))
theorem s_isx1 {fs : Fs} {a : Expr} {c : E} {d : String} {y : Str} {p pos p2 : Pos} (G : Gd fs Φ X W) (hg : Gl X (Str.ofString "isinstance")) (hc : okC fs X.env.scope [d] [.Name y p2] = true) (h : PE X a (tE Φ X W c))
    (hs : starEach [a, .Name y p2] X.env = (false, eval a X.env) :: starEach [.Name y p2] X.env) : PE X (.Call (.Name (Str.ofString "isinstance") p) [a, .Name y p2] [] pos) (tE Φ X W (.isx c [d])) := by
  unfold okC at hc
  simp only [Bool.and_eq_true, decide_eq_true_eq, Bool.or_eq_true, beq_iff_eq] at hc
  obtain ⟨⟨⟨h1, h2⟩, h3⟩, _⟩ := hc
  obtain ⟨cv, u, k1, k2, k3⟩ := cls_val (p := p2) G h1 h2 h3
  refine PE.imp (pe_callB (callR_cl call_isX) hg (G.blt _ (by decide)) boot_isinstance (pa_cons h (pa_cons k1 pa_nil rfl) hs) (he := hs) (hpl := rfl)) fun σ H Q' ⟨F, ρ, f, Q, xe, r, x, w, k⟩ => ?_
  simp only [wpE] at w
  refine ⟨F, ρ, f, _, xe, r, x, w, fun v1 F1 H1 e1 ρ1 f1 g1 fin o q => ?_⟩
  obtain ⟨hp, q⟩ := q
  obtain ⟨cx, hcx, q⟩ := onO_some q
  rw [hp] at o
  have o := (Ow_sh.mp o).2
  obtain ⟨c0, ad, C, rfl, h0, hC, at_, e0⟩ := dv_exc o hcx
  subst e0
  refine ⟨Res X.K F1 H1 fun e => Q e ρ1, ⟨ad, C, cv, u, subX c0 d, rfl, k2, at_, (G.exc.at_ h0 hC).xcl G.exc, k3 c0 h0 C hC, res_sh (Q := fun e => Q e ρ1) dv_bl (by simpa using q)⟩, fun v H' z => ?_⟩
  obtain ⟨e, g, fin', o', q'⟩ := fin.drop.res z
  exact k v F1 H' e ρ1 f1 g fin' o' q'
theorem s_isxT {fs : Fs} {a : Expr} {c : E} {cs : List String} {es : List Expr} {k0 : Nat} {p pos p2 : Pos} (G : Gd fs Φ X W) (hg : Gl X (Str.ofString "isinstance")) (hl : cs.length ≤ 100) (hc : okC fs X.env.scope cs es = true) (h : PE X a (tE Φ X W c))
    (hs : starEach [a, .Tuple es k0 p2] X.env = (false, eval a X.env) :: starEach [.Tuple es k0 p2] X.env) : PE X (.Call (.Name (Str.ofString "isinstance") p) [a, .Tuple es k0 p2] [] pos) (tE Φ X W (.isx c cs)) := by
  obtain ⟨cvs, us, t, j1, j2, j3, j4, j5⟩ := cls_vals G hc
  refine PE.imp (pe_callB (callR_cl call_isXT) hg (G.blt _ (by decide)) boot_isinstance (pa_cons h (pa_cons (pe_tup j1) pa_nil rfl) hs) (he := hs) (hpl := rfl)) fun σ H Q' ⟨F, ρ, f, Q, xe, r, x, w, k⟩ => ?_
  simp only [wpE] at w
  refine ⟨F, ρ, f, _, xe, r, x, w, fun v1 F1 H1 e1 ρ1 f1 g1 fin o q => ?_⟩
  obtain ⟨hp, q⟩ := q
  obtain ⟨cx, hcx, q⟩ := onO_some q
  rw [hp] at o
  have o := (Ow_sh.mp o).2
  obtain ⟨c0, ad, C, rfl, h0, hC, at_, e0⟩ := dv_exc o hcx
  subst e0
  refine j3 _ _ _ ⟨?_, fun tp hn => ?_⟩
  · rw [j4]
    have := sizeLine_eq
    omega
  have keep : ∀ a o, H1 a = some o → upd H1 tp (.tup cvs) a = some o := fun a o e => by
    rw [upd_ne (ne_of_none e hn)]; exact e
  have at2 : XAt (upd H1 tp (.tup cvs)) ad C := by
    rcases at_ with z | ⟨dd, fs, z1, z2⟩
    · exact .inl (keep _ _ z)
    · exact .inr ⟨dd, fs, keep _ _ z1, keep _ _ z2⟩
  have c1 : Chg F1 H1 F1 (upd H1 tp (.tup cvs)) [] := chg_new hn
  have fin2 : FinG X.K F H σ f F1 (upd H1 tp (.tup cvs)) ρ1 f1 [] := fin.drop.trans' (Reach.fin ⟨c1.weak (by simp), fun b hb => .inl hb⟩ (fin.rep.new c1 fun a ha => c1.dom a (fin.rep.there a ha)))
  refine ⟨Res X.K F1 (upd H1 tp (.tup cvs)) fun e => Q e ρ1, ⟨ad, C, tp, cvs, us, _, rfl, upd_same, j2, at2, (G.exc.at_ h0 hC).xcl G.exc, j5 c0 h0 C hC, res_sh (Q := fun e => Q e ρ1) dv_bl q⟩, fun v H' z => ?_⟩
  obtain ⟨e, g, fin', o', q'⟩ := fin2.res z
  exact k v F1 H' e ρ1 f1 g fin' o' q'
theorem s_fld {fs : Fs} {a : Expr} {c : E} {pos : Pos} (G : Gd fs Φ X W) (h : PE X a (tE Φ X W c)) (hb : attributeBase a (Str.ofString "place") X.env (eval a X.env) = eval a X.env) : PE X (.Attribute a (Str.ofString "place") pos) (tE Φ X W (.fld c "place")) := by
  refine PE.imp (pe_place h hb) fun σ H Q' ⟨F, ρ, f, Q, xe, r, x, w, k⟩ => ?_
  simp only [wpE] at w
  refine ⟨F, ρ, f, _, xe, r, x, w, fun v1 F1 H1 e1 ρ1 f1 g1 fin o q => ?_⟩
  obtain ⟨hp, q⟩ := q
  obtain ⟨i, hi, q⟩ := onO_some q
  rw [hp] at o
  have o := (Ow_sh.mp o).2
  obtain ⟨kvs, hk⟩ : ∃ kvs, e1.d = .dict kvs := by
    unfold exPl at hi
    split at hi
    · rename_i e; exact ⟨_, e⟩
    · cases hi
  rw [hk] at o hi
  have o := Dv_dx o (by
    unfold exPl at hi
    split at hi
    · rename_i heq; cases heq; exact ⟨_, _, _, rfl, .inl rfl⟩
    · cases hi)
  replace o := o.resolve_right fun ⟨f0, a0, _, z, _⟩ => by rw [z] at hi; simp [exPl, fnKv] at hi
  obtain ⟨c0, ad, C, rfl, h0, hC, ⟨e, _⟩ | ⟨j, dd, rfl, e, h1, h2⟩⟩ := o
  · subst e; simp [exPl, excKv] at hi
  · subst e
    have e2 : j = i := by simpa [exPl, excKv] using hi
    subst e2
    exact ⟨ad, C, dd, _, .int j, rfl, (G.exc.at_ h0 hC).xcl G.exc, G.exc.pl C hC, h1, h2, by simp, k (.int j) F1 H1 (sh (.int j)) ρ1 f1 [] fin.drop (Ow_sh.mpr ⟨rfl, dv_int⟩) q⟩
/-! ### a list of own lists -/
theorem lkO_ok {K : PySem.W.Frag} {F : Addr → Prop} {H : Hp} {σ : L2.St} : ∀ {as : List AV} {vs : List V} {g : List Addr} {es : List Ety}, AvA K F H σ as vs g → looks [] as = some es → (es.all fun e => decide (e.p = .own .sh) || (decide (e.p = .sh) && isScal e.d)) = true → OwA K F H (es.map (·.d)) (.own .sh) vs g
  | [], vs, g, es, h, e, _ => by
    simp [looks] at e; subst e
    exact OwA_nil.mpr h
  | a :: as, vs, g, es, h, e, hc => by
    obtain ⟨x, xr, g1, g2, rfl, rfl, h1, h2⟩ := h
    unfold looks at e
    cases e1 : a.look [] with
    | none => rw [e1] at e; cases e
    | some y =>
      cases e2 : looks [] as with
      | none => rw [e1, e2] at e; cases e
      | some ys =>
        rw [e1, e2] at e
        have e : y :: ys = es := Option.some.inj e
        subst e
        rw [List.all_cons, Bool.and_eq_true] at hc
        refine OwA_cons.mpr ⟨x, xr, g1, g2, rfl, rfl, ?_, lkO_ok h2 e2 hc.2⟩
        cases a with
        | pk i => simp [AV.look, Rho.at] at e1
        | val z =>
          have : z = y := Option.some.inj e1
          subst this
          have hc := hc.1
          simp only [Bool.or_eq_true, Bool.and_eq_true, decide_eq_true_eq] at hc
          have h1 : Ow K F H z.d z.p x g1 := h1
          rcases hc with hp | ⟨hp, hs⟩
          · rw [hp] at h1; exact h1
          · rw [hp] at h1
            exact (Ow_own_scal hs).mpr (Ow_sh.mp h1)
theorem s_lstO {es : List Expr} {pos : Pos} {cs : Es} (h : PA X es (tEs Φ X W cs)) : PE X (.List es pos) (tE Φ X W (.lstO cs)) := PE.imp (pe_lst h) fun σ H Q' ⟨F, ρ, f, Q, xe, r, x, w, k⟩ => by
  simp only [wpE] at w
  refine ⟨F, ρ, f, _, xe, r, x, w, fun vs F1 H1 as ρ1 f1 g1 fin1 o1 q1 => ?_⟩
  obtain ⟨es, e1, hc, hz, q⟩ := onO_some q1
  have hd := lkO_ok o1 e1 hc
  refine ⟨by rw [hd.length, List.length_map]; exact hz, fun p hp => ?_⟩
  have c : Chg F1 H1 F1 (upd H1 p (.lst vs)) [] := chg_new hp
  have r1 : Rep X.K F1 (upd H1 p (.lst vs)) σ ρ1 f1 := fin1.rep.new c fun a ha => c.dom a (fin1.rep.there a ha)
  have pg : p ∉ g1 := fun z => by
    obtain ⟨xs, e⟩ := fin1.lst p z
    rw [hp] at e; cases e
  have hd' : OwA X.K F1 (upd H1 p (.lst vs)) (es.map (·.d)) (.own .sh) vs g1 := OwA.chg c (by simp) (by simp) _ _ _ _ (by simp) hd
  have hp0 : H p = none := by
    cases e : H p with
    | none => rfl
    | some o => exact absurd hp (fin1.chg.dom p (by rw [e]; simp))
  refine k (.ref p) F1 _ _ ρ1 f1 (p :: g1) ⟨r1, ?_, ?_, ?_, ?_, fin1.chg.trans c (by simp)⟩ (Ow_list.mpr ⟨p, vs, g1, rfl, upd_same, rfl, hd', by simp⟩) q
  · refine List.nodup_cons.mpr ⟨fun z => ?_, fin1.nd⟩
    rcases List.mem_append.mp z with z | z
    · exact pg z
    · exact fin1.rep.ne z hp
  · intro a ha
    rcases List.mem_cons.mp ha with rfl | ha
    · exact fun z => fin1.rep.there _ z hp
    · exact fin1.off a ha
  · intro a ha
    rcases List.mem_cons.mp ha with rfl | ha
    · exact .inr hp0
    · exact fin1.sub a ha
  · intro a ha
    rcases List.mem_cons.mp ha with rfl | ha
    · exact .of upd_same
    · obtain ⟨xs, e⟩ := fin1.lst a ha
      exact ⟨xs, c.keep a _ e (by simp)⟩
theorem lkR_ok {K : PySem.W.Frag} {F : Addr → Prop} {H : Hp} {σ : L2.St} : ∀ {as : List AV} {vs : List V} {g : List Addr} {es : List Ety}, AvA K F H σ as vs g → looks [] as = some es → (es.all fun e => decide (e.p = .raw) || (decide (e.p = .sh) && isScal e.d)) = true → OwA K F H (es.map (·.d)) .raw vs g
  | [], vs, g, es, h, e, _ => by
    simp [looks] at e; subst e
    exact OwA_nil.mpr h
  | a :: as, vs, g, es, h, e, hc => by
    obtain ⟨x, xr, g1, g2, rfl, rfl, h1, h2⟩ := h
    unfold looks at e
    cases e1 : a.look [] with
    | none => rw [e1] at e; cases e
    | some y =>
      cases e2 : looks [] as with
      | none => rw [e1, e2] at e; cases e
      | some ys =>
        rw [e1, e2] at e
        have e : y :: ys = es := Option.some.inj e
        subst e
        rw [List.all_cons, Bool.and_eq_true] at hc
        refine OwA_cons.mpr ⟨x, xr, g1, g2, rfl, rfl, ?_, lkR_ok h2 e2 hc.2⟩
        cases a with
        | pk i => simp [AV.look, Rho.at] at e1
        | val z =>
          have : z = y := Option.some.inj e1
          subst this
          have hc := hc.1
          simp only [Bool.or_eq_true, Bool.and_eq_true, decide_eq_true_eq] at hc
          have h1 : Ow K F H z.d z.p x g1 := h1
          rcases hc with hp | ⟨hp, hs⟩
          · rw [hp] at h1; exact h1
          · rw [hp] at h1
            obtain ⟨rfl, h1⟩ := Ow_sh.mp h1
            refine Ow_raw.mpr ⟨rfl, ?_⟩
            obtain ⟨_, d⟩ := z
            cases d <;> first | (simp [isScal] at hs; done) | exact ⟨hs, by simpa only [Ow_sh, true_and] using h1⟩
theorem s_lstR {es : List Expr} {pos : Pos} {cs : Es} (h : PA X es (tEs Φ X W cs)) : PE X (.List es pos) (tE Φ X W (.lstR cs)) := PE.imp (pe_lst h) fun σ H Q' ⟨F, ρ, f, Q, xe, r, x, w, k⟩ => by
  simp only [wpE] at w
  refine ⟨F, ρ, f, _, xe, r, x, w, fun vs F1 H1 as ρ1 f1 g1 fin1 o1 q1 => ?_⟩
  obtain ⟨es, e1, hc, hz, q⟩ := onO_some q1
  have hd := lkR_ok o1 e1 hc
  refine ⟨by rw [hd.length, List.length_map]; exact hz, fun p hp => ?_⟩
  have c : Chg F1 H1 F1 (upd H1 p (.lst vs)) [] := chg_new hp
  have r1 : Rep X.K F1 (upd H1 p (.lst vs)) σ ρ1 f1 := fin1.rep.new c fun a ha => c.dom a (fin1.rep.there a ha)
  have pg : p ∉ g1 := fun z => by
    obtain ⟨xs, e⟩ := fin1.lst p z
    rw [hp] at e; cases e
  have hd' : OwA X.K F1 (upd H1 p (.lst vs)) (es.map (·.d)) .raw vs g1 := OwA.chg c (by simp) (by simp) _ _ _ _ (by simp) hd
  have hp0 : H p = none := by
    cases e : H p with
    | none => rfl
    | some o => exact absurd hp (fin1.chg.dom p (by rw [e]; simp))
  refine k (.ref p) F1 _ _ ρ1 f1 (p :: g1) ⟨r1, ?_, ?_, ?_, ?_, fin1.chg.trans c (by simp)⟩ (Ow_list.mpr ⟨p, vs, g1, rfl, upd_same, rfl, hd', by simp⟩) q
  · refine List.nodup_cons.mpr ⟨fun z => ?_, fin1.nd⟩
    rcases List.mem_append.mp z with z | z
    · exact pg z
    · exact fin1.rep.ne z hp
  · intro a ha
    rcases List.mem_cons.mp ha with rfl | ha
    · exact fun z => fin1.rep.there _ z hp
    · exact fin1.off a ha
  · intro a ha
    rcases List.mem_cons.mp ha with rfl | ha
    · exact .inr hp0
    · exact fin1.sub a ha
  · intro a ha
    rcases List.mem_cons.mp ha with rfl | ha
    · exact .of upd_same
    · obtain ⟨xs, e⟩ := fin1.lst a ha
      exact ⟨xs, c.keep a _ e (by simp)⟩
theorem seqE_of {e : Expr} (h : notSet e = true) : ∀ x, foldedSetIterable e X.env x = pure x := fun x => folded_of h x
end
/-- the context of a comprehension's block -/
theorem Gd.blk {fs : Fs} {Φ : String → Spec} {X : Cx} {W : WX} (G : Gd fs Φ X W) (s : Shared) (H : Hp) (scope : Scope) (C : Addr) (cl : List (Str × Addr)) (fp : List Addr) : Gd fs Φ (X.blk s H scope (compEnvC scope cl C X.env) fp) W0 where
  calm := G.calm
  exc := G.exc
  ndg := fun h1 h2 => ⟨(G.ndg h1 h2).ok, (G.ndg h1 h2).room⟩
  nd := G.nd
  tk := takes0
  hu := G.hu
  blt := G.blt
  fn := G.fn
theorem blk_loc {X : Cx} {scope : Scope} {s : Shared} {H : Hp} {C : Addr} {cl : List (Str × Addr)} {fp : List Addr} : ∀ x, Loc scope x → Loc (X.blk s H scope (compEnvC scope cl C X.env) fp).env.scope x ∧ ((X.blk s H scope (compEnvC scope cl C X.env) fp).fn x = true ∨ (X.blk s H scope (compEnvC scope cl C X.env) fp).env.scope.names.lookup x = some .local) := fun x h => by
  rcases h with h | h
  · have e : (relS scope X.env.scope).names.lookup x = some .local := lookup_relS_keep (by simp) h
    exact ⟨.inl e, .inr e⟩
  · have e : (relS scope X.env.scope).names.lookup x = some .cell := lookup_relS_keep (by simp) h
    refine ⟨.inr e, .inl ?_⟩
    show (scope.names.lookup x == some .cell) = true
    rw [h]; rfl
section
variable {fs : Fs} {Φ : String → Spec}
theorem ok_D : ∀ {o : DO} {k v : E} {X : Cx} {W : WX} {e : Expr} (G : Gd fs Φ X W), dOk fs X.N X.env.scope o e (fun y => okE fs X.N X.env.scope k y) (fun y => okE fs X.N X.env.scope v y) = true → (∀ y, okE fs X.N X.env.scope k y = true → SE Φ X W k y) → (∀ y, okE fs X.N X.env.scope v y = true → SE Φ X W v y) → SE Φ X W (.dop o k v) e
  | .newI, k, v, X, W, e, G, h, hk, hv => by
    unfold dOk at h; split at h <;> try contradiction
    rename_i heq; cases heq
    exact se_val s_dnewI (fun _ => rfl) (fun _ _ _ => nofun)
  | .newO, k, v, X, W, e, G, h, hk, hv => by
    unfold dOk at h; split at h <;> try contradiction
    rename_i heq; cases heq
    exact se_val s_dnewO (fun _ => rfl) (fun _ _ _ => nofun)
  | .new1, k, v, X, W, e, G, h, hk, hv => by
    unfold dOk at h; split at h <;> try contradiction
    rename_i heq; cases heq
    simp only [Bool.and_eq_true] at h
    exact se_val (s_dnew1 (hk _ h.1).pe (hv _ h.2).pe) (fun _ => rfl) (fun _ _ _ => nofun)
  | .din false i, k, v, X, W, e, G, h, hk, hv => by
    unfold dOk at h; split at h <;> try contradiction
    all_goals (rename_i heq; cases heq)
    simp only [Bool.and_eq_true] at h
    exact se_both (s_din (by have := G.hu; omega) h.1 (hk _ h.2).pe) (fun _ _ _ => nofun)
  | .din true i, k, v, X, W, e, G, h, hk, hv => by
    unfold dOk at h; split at h <;> try contradiction
    all_goals (rename_i heq; cases heq)
    simp only [Bool.and_eq_true] at h
    exact se_both (s_dnin (by have := G.hu; omega) h.1 (hk _ h.2).pe) (fun _ _ _ => nofun)
  | .dinO false i, k, v, X, W, e, G, h, hk, hv => by
    unfold dOk at h; split at h <;> try contradiction
    all_goals (rename_i heq; cases heq)
    simp only [Bool.and_eq_true] at h
    exact se_both (s_dinO (by have := G.hu; omega) h.1 (hk _ h.2).pe) (fun _ _ _ => nofun)
  | .dinO true i, k, v, X, W, e, G, h, hk, hv => by
    unfold dOk at h; split at h <;> try contradiction
    all_goals (rename_i heq; cases heq)
    simp only [Bool.and_eq_true] at h
    exact se_both (s_dninO (by have := G.hu; omega) h.1 (hk _ h.2).pe) (fun _ _ _ => nofun)
  | .dgt i, k, v, X, W, e, G, h, hk, hv => by
    unfold dOk at h; split at h <;> try contradiction
    rename_i heq; cases heq
    simp only [Bool.and_eq_true] at h
    exact se_val (s_dgt (by have := G.hu; omega) h.1.1 (hk _ h.2).pe (noSl_of h.1.2)) (fun _ => rfl) (fun _ _ _ => nofun)
  | .dcpy i, k, v, X, W, e, G, h, hk, hv => by
    unfold dOk at h; split at h <;> try contradiction
    rename_i heq; cases heq
    simp only [Bool.and_eq_true] at h
    obtain ⟨rfl, g1, o1⟩ := bltB_of h.1
    exact se_val (s_dcpy rfl g1 (G.blt _ (by decide)) h.2) (fun _ => rfl) (fun _ _ _ => nofun)
  | .dgd i, k, v, X, W, e, G, h, hk, hv => by
    unfold dOk at h; split at h <;> try contradiction
    rename_i heq; cases heq
    simp only [Bool.and_eq_true, decide_eq_true_eq] at h
    exact se_val (s_dgd (by have := G.hu; omega) h.1.1.1.1 h.1.1.1.2 h.1.1.2 (hk _ h.2).pe (by rw [star_of h.1.2]; rfl)) (fun _ => rfl) (fun _ _ _ => nofun)
  | .dfrom, k, v, X, W, e, G, h, hk, hv => by
    unfold dOk at h; split at h <;> try contradiction
    rename_i heq; cases heq
    simp only [Bool.and_eq_true] at h
    obtain ⟨rfl, g1, o1⟩ := bltB_of h.1.1.2
    exact se_val (s_dfrom (G.calm h.1.1.1) rfl g1 (G.blt _ (by decide)) (hk _ h.2).pe (star_of h.1.2)) (fun _ => rfl) (fun _ _ _ => nofun)
  | .dsrt i, k, v, X, W, e, G, h, hk, hv => by
    unfold dOk at h; split at h <;> try contradiction
    rename_i heq; cases heq
    simp only [Bool.and_eq_true] at h
    obtain ⟨rfl, g1, o1⟩ := bltB_of h.1.2
    exact se_val (s_dsrt (G.calm h.1.1) rfl g1 (G.blt _ (by decide)) h.2) (fun _ => rfl) (fun _ _ _ => nofun)
  | .dpop i, k, v, X, W, e, G, h, hk, hv => by
    unfold dOk at h; split at h <;> try contradiction
    rename_i heq; cases heq
    simp only [Bool.and_eq_true, decide_eq_true_eq] at h
    exact se_val (s_dpop h.1.1.1.1 h.1.1.1.2 h.1.1.2 (hk _ h.2).pe (star_of h.1.2)) (fun _ => rfl) (fun _ _ _ => nofun)
  | .deq false i j, k, v, X, W, e, G, h, hk, hv => by
    unfold dOk at h; split at h <;> try contradiction
    all_goals (rename_i heq; cases heq)
    simp only [Bool.and_eq_true] at h
    exact se_both (s_deq G.hu h.1 h.2).1 (fun _ _ _ => nofun)
  | .deq true i j, k, v, X, W, e, G, h, hk, hv => by
    unfold dOk at h; split at h <;> try contradiction
    all_goals (rename_i heq; cases heq)
    simp only [Bool.and_eq_true] at h
    exact se_both (s_deq G.hu h.1 h.2).2 (fun _ _ _ => nofun)
  | .lset, k, v, X, W, e, G, h, hk, hv => by
    unfold dOk at h; split at h <;> try contradiction
    rename_i heq; cases heq
    simp only [Bool.and_eq_true] at h
    obtain ⟨⟨⟨⟨h0, h1⟩, h2⟩, h3⟩, h5⟩ := h
    obtain ⟨rfl, g1, o1⟩ := bltB_of h1
    obtain ⟨rfl, g2, o2⟩ := bltB_of h2
    exact se_val (s_lset (G.calm h0) rfl g2 (G.blt _ (by decide)) rfl g1 (G.blt _ (by decide)) (hk _ h5).pe (star_of h3)) (fun _ => rfl) (fun _ _ _ => nofun)
  | .lsetT, k, v, X, W, e, G, h, hk, hv => by
    unfold dOk at h; split at h <;> try contradiction
    rename_i heq; cases heq
    simp only [Bool.and_eq_true] at h
    obtain ⟨⟨⟨⟨h0, h1⟩, h2⟩, h3⟩, h5⟩ := h
    obtain ⟨rfl, g1, o1⟩ := bltB_of h1
    obtain ⟨rfl, g2, o2⟩ := bltB_of h2
    exact se_val (s_lsetT G.hu (G.calm h0) rfl g2 (G.blt _ (by decide)) rfl g1 (G.blt _ (by decide)) (hk _ h5).pe (star_of h3)) (fun _ => rfl) (fun _ _ _ => nofun)
  | .dlen, k, v, X, W, e, G, h, hk, hv => by
    unfold dOk at h; split at h <;> try contradiction
    rename_i heq; cases heq
    simp only [Bool.and_eq_true] at h
    obtain ⟨rfl, g1, o1⟩ := bltB_of h.1.1
    exact se_val (s_dlen rfl g1 (G.blt _ (by decide)) (hk _ h.2).pe (star_of h.1.2)) (fun _ => rfl) (fun _ _ _ => nofun)
mutual
theorem ok_E : ∀ (c : E) {X : Cx} {W : WX} {e : Expr}, Gd fs Φ X W → okE fs X.N X.env.scope c e = true → SE Φ X W c e
  | .var i, X, W, e, G, h => by
    unfold okE at h; split at h <;> try contradiction
    rename_i heq; cases heq
    exact se_val (s_var h) (fun _ => rfl) (fun _ _ _ => nofun)
  | .mv i, X, W, e, G, h => by
    unfold okE at h; split at h <;> try contradiction
    rename_i heq; cases heq
    exact se_val (s_mv h) (fun _ => rfl) (fun _ _ _ => nofun)
  | .pk i, X, W, e, G, h => by
    simp [okE] at h
  | .int n, X, W, e, G, h => by
    unfold okE at h; split at h <;> try contradiction
    rename_i heq; cases heq
    have h := of_decide_eq_true h
    subst h
    exact se_val (s_lit pe_int (fun _ _ => dv_int) fun _ _ _ => by simp only [wpE]) (fun _ => rfl) (fun _ _ _ => nofun)
  | .bl n, X, W, e, G, h => by
    unfold okE at h; split at h <;> try contradiction
    rename_i heq; cases heq
    have h := eq_of_beq h
    subst h
    exact se_val (s_lit pe_bl (fun _ _ => dv_bl) fun _ _ _ => by simp only [wpE]) (fun _ => rfl) (fun _ _ _ => nofun)
  | .non, X, W, e, G, h => by
    unfold okE at h; split at h <;> try contradiction
    rename_i heq; cases heq
    exact se_val (s_lit pe_non (fun _ _ => dv_non) fun _ _ _ => by simp only [wpE]) (fun _ => rfl) (fun _ _ _ => nofun)
  | .str n, X, W, e, G, h => by
    unfold okE at h; split at h <;> try contradiction
    rename_i heq; cases heq
    have h := of_decide_eq_true h
    subst h
    exact se_val (s_lit pe_str (fun _ _ => dv_str) fun _ _ _ => by simp only [wpE]) (fun _ => rfl) (fun _ _ _ => nofun)
  | .frz c, X, W, e, G, h => by
    have s := ok_E c G (show okE fs X.N X.env.scope c e = true by simpa only [okE] using h)
    refine ⟨s_frz s.pe, fun hi => PT.imp (s.pt hi) fun σ H Q' z => tTst_frz z, fun op xs pos z => ⟨fun wh pins s' σ H Q' I z' => (s.pw op xs pos z).run wh pins s' σ H Q' I (tTst_frz z')⟩⟩
  | .prim p as, X, W, e, G, h => by
    unfold okE at h
    rw [Bool.and_eq_true] at h
    obtain ⟨h0, h⟩ := h
    split at h <;> try contradiction
    rename_i hp
    exact prim_ok G h0 hp (ok_Es as G h)
  | .tup as, X, W, e, G, h => by
    unfold okE at h; split at h <;> try contradiction
    rename_i heq; cases heq
    exact se_val (s_tup (ok_Es as G h).pa) (fun _ => rfl) (fun _ _ _ => nofun)
  | .lst as, X, W, e, G, h => by
    unfold okE at h; split at h <;> try contradiction
    rename_i heq; cases heq
    exact se_val (s_lst (ok_Es as G h).pa) (fun _ => rfl) (fun _ _ _ => nofun)
  | .lstO as, X, W, e, G, h => by
    unfold okE at h; split at h <;> try contradiction
    rename_i heq; cases heq
    exact se_val (s_lstO (ok_Es as G h).pa) (fun _ => rfl) (fun _ _ _ => nofun)
  | .lstR as, X, W, e, G, h => by
    unfold okE at h; split at h <;> try contradiction
    rename_i heq; cases heq
    exact se_val (s_lstR (ok_Es as G h).pa) (fun _ => rfl) (fun _ _ _ => nofun)
  | .call f as, X, W, e, G, h => by
    unfold okE at h; split at h <;> try contradiction
    rename_i heq; cases heq
    simp only [Bool.and_eq_true, decide_eq_true_eq] at h
    obtain ⟨⟨⟨h1, h2⟩, h3⟩, h4⟩ := h
    have hs := okEs_star h4
    rw [List.all_cons, Bool.and_eq_true] at hs
    exact se_val (s_call G (by simpa using h1) h2 (glB_of h3).1 (glB_of h3).2 (ok_Es as G h4).pa (star_of hs.1) (any_of hs.2)) (fun _ => rfl) (fun _ _ _ => nofun)
  | .and a b, X, W, e, G, h => by
    unfold okE at h; split at h <;> try contradiction
    rename_i heq; cases heq
    simp only [Bool.and_eq_true] at h
    obtain ⟨⟨⟨h1, h2⟩, h3⟩, h4⟩ := h
    have sa := ok_E a G h3
    have sb := ok_E b G h4
    rename_i x y ys pos
    cases ys with
    | nil =>
      have sb : SE Φ X W b y := sb
      have w := t_and (sa.pt h1) (pw_and1 (pos := pos) (sb.pt h2))
      exact ⟨s_and sa.pe (pe_one sb.pe), fun _ => w.pt, fun op xs p z => by cases z; exact w⟩
    | cons z zs =>
      have sb : SE Φ X W b (.BoolOp .And (y :: z :: zs) pos) := sb
      have w := t_and (sa.pt h1) (sb.pw _ _ _ rfl)
      exact ⟨s_and sa.pe sb.pe, fun _ => w.pt, fun op xs p z => by cases z; exact w⟩
  | .or a b, X, W, e, G, h => by
    unfold okE at h; split at h <;> try contradiction
    rename_i heq; cases heq
    simp only [Bool.and_eq_true] at h
    obtain ⟨⟨⟨h1, h2⟩, h3⟩, h4⟩ := h
    have sa := ok_E a G h3
    have sb := ok_E b G h4
    rename_i x y ys pos
    cases ys with
    | nil =>
      have sb : SE Φ X W b y := sb
      have w := t_or (sa.pt h1) (pw_or1 (pos := pos) (sb.pt h2))
      exact ⟨s_or sa.pe (pe_one sb.pe), fun _ => w.pt, fun op xs p z => by cases z; exact w⟩
    | cons z zs =>
      have sb : SE Φ X W b (.BoolOp .Or (y :: z :: zs) pos) := sb
      have w := t_or (sa.pt h1) (sb.pw _ _ _ rfl)
      exact ⟨s_or sa.pe sb.pe, fun _ => w.pt, fun op xs p z => by cases z; exact w⟩
  | .not a, X, W, e, G, h => by
    unfold okE at h; split at h <;> try contradiction
    rename_i heq; cases heq
    simp only [Bool.and_eq_true] at h
    have sa := ok_E a G h.2
    exact ⟨s_not sa.pe, fun _ => t_not (sa.pt h.1), fun _ _ _ => nofun⟩
  | .ite c a b, X, W, e, G, h => by
    unfold okE at h; split at h <;> try contradiction
    rename_i heq; cases heq
    simp only [Bool.and_eq_true] at h
    obtain ⟨⟨⟨h1, h2⟩, h3⟩, h4⟩ := h
    exact ⟨s_ite ((ok_E c G h2).pt h1) (ok_E a G h3).pe (ok_E b G h4).pe, fun z => absurd z (by simp [notIf]), fun _ _ _ => nofun⟩
  | .chain o1 o2 a b c, X, W, e, G, h => by
    unfold okE at h; split at h <;> try contradiction
    rename_i heq; cases heq
    simp only [Bool.and_eq_true, decide_eq_true_eq, Bool.or_eq_true, beq_iff_eq] at h
    obtain ⟨⟨⟨⟨⟨⟨⟨⟨h1, h2⟩, h3⟩, h4⟩, h5⟩, h6⟩, h7⟩, h8⟩, h9⟩ := h
    rename_i p1 p2 y z pos
    have hm : lastMarks [p1, p2] [y, z] = false := by
      have e1 : p2 = .Lt ∨ p2 = .LtE := by
        rcases h4 with rfl | rfl <;> simp [cmpOp] at h2 <;> simp [← h2]
      have : lastMarks [p1, p2] [y, z] = behindInMarks p2 z := by with_unfolding_all rfl
      rw [this]
      exact behind_of h6
    have s := s_chain (pos := pos) (prim_cmp G.hu h1) (prim_cmp G.hu h2) hm (ok_E a G h7).pe (ok_E b G h8).pe (ok_E c G h9).pe
    exact ⟨s.1, fun _ => s.2, fun _ _ _ => nofun⟩
  | .comp t it c el, X, W, e, G, h => by
    unfold okE at h; split at h <;> try contradiction
    rename_i heq; cases heq
    simp only [Bool.and_eq_true, decide_eq_true_eq] at h
    obtain ⟨⟨⟨⟨⟨⟨⟨h0, h1⟩, h2⟩, h3⟩, h4⟩, h5⟩, h6⟩, h7⟩ := h
    have calm := G.calm h0
    rename_i elt tg iter ifs k scope pos
    subst h1
    have hI := ok_I it G h2
    have hE : ∀ (s : Shared) (H : Hp) (C : Addr) (cl : List (Str × Addr)) (fp : List Addr), PE (X.blk s H scope (compEnvC scope cl C X.env) fp) elt (tE Φ X W0 el) := fun s H C cl fp => (ok_E el (G.blk s H scope C cl fp) h7).pe
    have hG : ∀ (s : Shared) (H : Hp) (C : Addr) (cl : List (Str × Addr)) (fp : List Addr), PG (X.blk s H scope (compEnvC scope cl C X.env) fp) tg (gTg X.K t) := fun s H C cl fp => pg_ok (X := X.blk s H scope (compEnvC scope cl C X.env) fp) calm G.nd (fun x z => blk_loc x z) h5
    refine se_val ?_ (fun _ => rfl) (fun _ _ _ => nofun)
    cases ifs with
    | nil =>
      have hc : c = .bl true := by
        cases c <;> first | exact nomatch (show false = true from h6) | exact congrArg E.bl (show _ = true from h6)
      subst hc
      exact s_comp calm G.nd hI.1 (blkOk_by h3) h4 hG (fun _ _ _ _ _ => pts_nil) (fun σ H Q' z => by
        obtain ⟨F, ρ, f, Q, xe, r, x, w, k⟩ := z
        simp only [wpE] at w
        exact k true F H ρ f (.refl r) w) hE hI.2
    | cons f1 fr =>
      cases fr with
      | nil =>
        simp only [Bool.and_eq_true] at h6
        exact s_comp calm G.nd hI.1 (blkOk_by h3) h4 hG (fun s H C cl fp => pts_one ((ok_E c (G.blk s H scope C cl fp) h6.2).pt h6.1)) (fun σ H Q' z => z) hE hI.2
      | cons _ _ => cases h6
  | .isx c cs, X, W, e, G, h => by
    unfold okE at h; split at h <;> first | contradiction | skip
    · rename_i heq; cases heq
      simp only [Bool.and_eq_true] at h
      obtain ⟨⟨⟨h1, h2⟩, h3⟩, h4⟩ := h
      obtain ⟨rfl, g1, o1⟩ := bltB_of h1
      exact se_val (s_isx1 G g1 h4 (ok_E c G h3).pe (star_of h2)) (fun _ => rfl) (fun _ _ _ => nofun)
    · rename_i heq; cases heq
      simp only [Bool.and_eq_true] at h
      obtain ⟨⟨⟨⟨h0, h1⟩, h2⟩, h3⟩, h4⟩ := h
      obtain ⟨rfl, g1, o1⟩ := bltB_of h1
      exact se_val (s_isxT G g1 (of_decide_eq_true h0) h4 (ok_E c G h3).pe (star_of h2)) (fun _ => rfl) (fun _ _ _ => nofun)
  | .fld c n, X, W, e, G, h => by
    unfold okE at h; split at h <;> first | contradiction | skip
    all_goals
      rename_i heq; cases heq
      simp only [Bool.and_eq_true, decide_eq_true_eq, beq_iff_eq] at h
      obtain ⟨⟨⟨h1, h2⟩, h3⟩, h4⟩ := h
      subst h1 h3
      exact se_val (s_fld G (ok_E c G h4).pe rfl) (fun _ => rfl) (fun _ _ _ => nofun)
  | .dnewT, X, W, e, G, h => by
    unfold okE at h; split at h <;> try contradiction
    rename_i heq; cases heq
    exact se_val s_dnewT (fun _ => rfl) (fun _ _ _ => nofun)
  | .dop o k v, X, W, e, G, h => ok_D G (by simpa only [okE] using h) (fun y hy => ok_E k G hy) (fun y hy => ok_E v G hy)
  | .tupT as, X, W, e, G, h => by
    unfold okE at h; split at h <;> try contradiction
    rename_i heq; cases heq
    exact se_val (s_tupT (ok_Es as G h).pa) (fun _ => rfl) (fun _ _ _ => nofun)
  | .kin false i j, X, W, e, G, h => by
    unfold okE at h; split at h <;> try contradiction
    all_goals (rename_i heq; cases heq)
    simp only [Bool.and_eq_true] at h
    exact se_both (s_kin (by have := G.hu; omega) h.1 h.2) (fun _ _ _ => nofun)
  | .kin true i j, X, W, e, G, h => by
    unfold okE at h; split at h <;> try contradiction
    all_goals (rename_i heq; cases heq)
    simp only [Bool.and_eq_true] at h
    exact se_both (s_knin (by have := G.hu; omega) h.1 h.2) (fun _ _ _ => nofun)
  | .dix i j, X, W, e, G, h => by
    unfold okE at h; split at h <;> try contradiction
    rename_i heq; cases heq
    simp only [Bool.and_eq_true] at h
    exact se_val (s_dix (by have := G.hu; omega) h.1 h.2) (fun _ => rfl) (fun _ _ _ => nofun)
  | .sset a, X, W, e, G, h => by
    unfold okE at h; split at h <;> try contradiction
    rename_i heq; cases heq
    simp only [Bool.and_eq_true] at h
    obtain ⟨⟨⟨⟨h0, h1⟩, h2⟩, h3⟩, h5⟩ := h
    obtain ⟨rfl, g1, o1⟩ := bltB_of h1
    obtain ⟨rfl, g2, o2⟩ := bltB_of h2
    exact se_val (s_sset (G.calm h0) rfl g2 (G.blt _ (by decide)) rfl g1 (G.blt _ (by decide)) (ok_E a G h5).pe (star_of h3) rfl) (fun _ => rfl) (fun _ _ _ => nofun)
  | .zipL a b, X, W, e, G, h => by
    unfold okE at h; split at h <;> try contradiction
    rename_i heq; cases heq
    simp only [Bool.and_eq_true] at h
    obtain ⟨⟨⟨⟨⟨⟨h0, h1⟩, h2⟩, h3⟩, h4⟩, h5⟩, h6⟩ := h
    obtain ⟨rfl, g1, o1⟩ := bltB_of h1
    obtain ⟨rfl, g2, o2⟩ := bltB_of h2
    exact se_val (s_zipL (G.calm h0) rfl g2 (G.blt _ (by decide)) rfl g1 (G.blt _ (by decide)) (ok_E a G h5).pe (ok_E b G h6).pe (star_of h3) (star_of h4) rfl) (fun _ => rfl) (fun _ _ _ => nofun)
  | .callL f i, X, W, e, G, h => by
    unfold okE at h; split at h <;> try contradiction
    rename_i heq; cases heq
    simp only [Bool.and_eq_true, decide_eq_true_eq] at h
    exact se_val (s_callL G (by simpa using h.1.1.1) h.1.1.2 h.1.2 h.2) (fun _ => rfl) (fun _ _ _ => nofun)
  | .fnv f, X, W, e, G, h => by
    unfold okE at h; split at h <;> try contradiction
    rename_i heq; cases heq
    simp only [Bool.and_eq_true, decide_eq_true_eq] at h
    exact se_val (s_fnv G (by simpa using h.1.1) h.1.2 h.2) (fun _ => rfl) (fun _ _ _ => nofun)
  | .callv i gs as, X, W, e, G, h => by
    unfold okE at h; split at h <;> try contradiction
    rename_i heq; cases heq
    simp only [Bool.and_eq_true, List.all_eq_true] at h
    obtain ⟨⟨h1, h2⟩, h3⟩ := h
    obtain ⟨n1, n2, n3⟩ := nameB_of h1
    have hs := okEs_star h3
    rw [List.all_cons, Bool.and_eq_true] at hs
    exact se_val (s_callv G (fun g hg => by simpa using h2 g hg) n1 n2 n3 (ok_Es as G h3).pa (star_of hs.1) (any_of hs.2)) (fun _ => rfl) (fun _ _ _ => nofun)
  | .exc c, X, W, e, G, h => by
    unfold okE at h; split at h <;> try contradiction
    rename_i heq; cases heq
    simp only [Bool.and_eq_true, decide_eq_true_eq, bne_iff_ne, ne_eq] at h
    exact se_val (s_exc G (by simpa using h.1.1.1) h.1.1.2 h.1.2 h.2) (fun _ => rfl) (fun _ _ _ => nofun)
  | .excF c n e1, X, W, e, G, h => by
    unfold okE at h; split at h <;> try contradiction
    rename_i heq; cases heq
    simp only [Bool.and_eq_true, decide_eq_true_eq, beq_iff_eq] at h
    obtain ⟨⟨⟨⟨⟨⟨⟨h1, h2⟩, h3⟩, h4⟩, h5⟩, h6⟩, h7⟩, h8⟩ := h
    subst h3 h4
    exact se_val (s_excF G h1 (by simpa using h2) h5 h6 (ok_E e1 G h8).pe (star_of h7)) (fun _ => rfl) (fun _ _ _ => nofun)
  | .pop i, X, W, e, G, h => by
    unfold okE at h; split at h <;> try contradiction
    rename_i heq; cases heq
    simp only [Bool.and_eq_true, decide_eq_true_eq] at h
    exact se_val (s_pop h.1.1 h.1.2 h.2) (fun _ => rfl) (fun _ _ _ => nofun)
  | .popAt i k, X, W, e, G, h => by
    unfold okE at h; split at h <;> try contradiction
    rename_i heq; cases heq
    simp only [Bool.and_eq_true, decide_eq_true_eq] at h
    exact se_val (s_popAt h.1.1.1.1 h.1.1.1.2 h.1.1.2 (ok_E k G h.2).pe (star_of h.1.2)) (fun _ => rfl) (fun _ _ _ => nofun)
  | .cut a b c, X, W, e, G, h => by
    unfold okE at h; split at h <;> try contradiction
    rename_i heq; cases heq
    simp only [Bool.and_eq_true] at h
    obtain ⟨⟨h1, h2⟩, h3⟩ := h
    obtain ⟨d, rfl, n1, k1⟩ := (ok_Es a G h1).one
    exact se_val (s_cut k1 (ok_E b G h2).pe (ok_E c G h3).pe) (fun _ => rfl) (fun _ _ _ => nofun)
  | .ix2 i a b, X, W, e, G, h => by
    unfold okE at h; split at h <;> try contradiction
    rename_i heq; cases heq
    simp only [Bool.and_eq_true] at h
    exact se_val (s_ix2 h.1.1 h.1.2 h.2) (fun _ => rfl) (fun _ _ _ => nofun)
  | .zcat i a b, X, W, e, G, h => by
    unfold okE at h; split at h <;> try contradiction
    rename_i heq; cases heq
    simp only [Bool.and_eq_true, decide_eq_true_eq] at h
    obtain ⟨⟨⟨⟨h0, h1⟩, h2⟩, h3⟩, h4⟩ := h
    subst h3
    exact se_val (s_zcat (G.calm h0) (fun s hs => by
      simp only [List.mem_cons, List.not_mem_nil, or_false] at hs
      rcases hs with rfl | rfl | rfl <;> exact G.blt _ (by decide)) h1 h2 h4) (fun _ => rfl) (fun _ _ _ => nofun)
  | .hcat i a k, X, W, e, G, h => by
    unfold okE at h; split at h <;> try contradiction
    rename_i heq; cases heq
    simp only [Bool.and_eq_true] at h
    exact se_val (s_hcat h.1.1 h.1.2 (ok_E k G h.2).pe) (fun _ => rfl) (fun _ _ _ => nofun)
  | .idx i k, X, W, e, G, h => by
    unfold okE at h; split at h <;> try contradiction
    rename_i heq; cases heq
    simp only [Bool.and_eq_true, decide_eq_true_eq] at h
    exact se_val (s_idx G.hu h.1.1.1.1 h.1.1.1.2 h.1.1.2 (ok_E k G h.2).pe (star_of h.1.2)) (fun _ => rfl) (fun _ _ _ => nofun)
  | .len1 i a, X, W, e, G, h => by
    unfold okE at h; split at h <;> try contradiction
    rename_i heq; cases heq
    simp only [Bool.and_eq_true] at h
    obtain ⟨e0, g1, o1⟩ := bltB_of h.1.1
    exact se_val (s_len1 e0 g1 (by subst e0; exact G.blt _ (by decide)) o1 h.1.2 h.2) (fun _ => rfl) (fun _ _ _ => nofun)
theorem ok_Es : ∀ (cs : Es) {X : Cx} {W : WX} {es : List Expr}, Gd fs Φ X W → okEs fs X.N X.env.scope cs es = true → SEs Φ X W cs es
  | .nil, X, W, es, G, h => by
    cases es with
    | nil => trivial
    | cons e es => simp [okEs] at h
  | .cons c cs, X, W, es, G, h => by
    cases es with
    | nil => simp [okEs] at h
    | cons e es =>
      by_cases hp : ∃ i, c = .pk i
      · obtain ⟨i, rfl⟩ := hp
        simp only [okEs, Bool.and_eq_true] at h
        refine ⟨h.1.1, ?_, ok_Es cs G h.2⟩
        have h1 := h.1.2
        split at h1
        · refine PE.imp (pe_nm h1) fun σ H Q' ⟨F, ρ, f, Q, xe, r, x, w, k⟩ => ?_
          obtain ⟨w1, w2⟩ := w
          cases e1 : Rho.at ρ i with
          | none => rw [e1] at w1; cases w1
          | some y =>
            obtain ⟨v, g, h3, _⟩ := r.get e1
            exact ⟨v, h3, k v F H (.pk i) ρ f [] (.refl r) ⟨rfl, h3⟩ w2⟩
        · cases h1
      · have h' : notStar e = true ∧ okE fs X.N X.env.scope c e = true ∧ okEs fs X.N X.env.scope cs es = true := by
          cases c <;> simp only [okEs, Bool.and_eq_true] at h <;> first | exact ⟨h.1.1, h.1.2, h.2⟩ | exact absurd ⟨_, rfl⟩ hp
        exact ⟨h'.1, PE.imp (ok_E c G h'.2.1).pe fun σ H Q' z => tA_val (fun i z => hp ⟨i, z⟩) z, ok_Es cs G h'.2.2⟩
theorem ok_I : ∀ (it : I) {X : Cx} {W : WX} {tg e : Expr}, Gd fs Φ X W → okI fs X.N X.env.scope it tg e = true → PI X tg e (tIt Φ X W it) ∧ ∀ x, foldedSetIterable e X.env x = pure x
  | .seq c, X, W, tg, e, G, h => by
    unfold okI at h
    simp only [Bool.and_eq_true] at h
    exact ⟨s_iseq (ok_E c G h.1).pe, folded_of h.2⟩
  | .rng1 a, X, W, tg, e, G, h => by
    unfold okI at h; split at h <;> try contradiction
    rename_i heq; cases heq
    simp only [Bool.and_eq_true] at h
    obtain ⟨⟨h1, h2⟩, h3⟩ := h
    obtain ⟨rfl, g1, o1⟩ := bltB_of h1
    exact ⟨s_rng1 rfl g1 (G.blt _ (by decide)) (ok_E a G h3).pe (star_of h2), fun _ => rfl⟩
  | .rng2 a b, X, W, tg, e, G, h => by
    unfold okI at h; split at h <;> try contradiction
    rename_i heq; cases heq
    simp only [Bool.and_eq_true] at h
    obtain ⟨⟨⟨⟨h1, h2⟩, h3⟩, h4⟩, h5⟩ := h
    obtain ⟨rfl, g1, o1⟩ := bltB_of h1
    exact ⟨s_rng2 rfl g1 (G.blt _ (by decide)) (ok_E a G h4).pe (ok_E b G h5).pe (star_of h3) (by rw [star_of h2, star_of h3]; rfl), fun _ => rfl⟩
  | .rngW a b, X, W, tg, e, G, h => by
    unfold okI at h; split at h <;> try contradiction
    rename_i heq; cases heq
    simp only [Bool.and_eq_true] at h
    obtain ⟨⟨⟨⟨h1, h2⟩, h3⟩, h4⟩, h5⟩ := h
    obtain ⟨rfl, g1, o1⟩ := bltB_of h1
    exact ⟨s_rngW rfl g1 (G.blt _ (by decide)) (ok_E a G h4).pe (ok_E b G h5).pe (star_of h3) (by rw [star_of h2, star_of h3]; rfl), fun _ => rfl⟩
  | .rng3 a b c, X, W, tg, e, G, h => by
    unfold okI at h; split at h <;> try contradiction
    rename_i heq; cases heq
    simp only [Bool.and_eq_true] at h
    obtain ⟨⟨⟨⟨⟨⟨h1, h2⟩, h3⟩, h3b⟩, h4⟩, h5⟩, h6⟩ := h
    obtain ⟨rfl, g1, o1⟩ := bltB_of h1
    exact ⟨s_rng3 rfl g1 (G.blt _ (by decide)) (ok_E a G h4).pe (ok_E b G h5).pe (ok_E c G h6).pe (star_of h3b) (by rw [star_of h3, star_of h3b]; rfl) (by rw [star_of h2, star_of h3, star_of h3b]; rfl), fun _ => rfl⟩
  | .rngS a b c, X, W, tg, e, G, h => by
    unfold okI at h; split at h <;> try contradiction
    rename_i heq; cases heq
    simp only [Bool.and_eq_true] at h
    obtain ⟨⟨⟨⟨⟨⟨h1, h2⟩, h3⟩, h3b⟩, h4⟩, h5⟩, h6⟩ := h
    obtain ⟨rfl, g1, o1⟩ := bltB_of h1
    exact ⟨s_rngS rfl g1 (G.blt _ (by decide)) (ok_E a G h4).pe (ok_E b G h5).pe (ok_E c G h6).pe (star_of h3b) (by rw [star_of h3, star_of h3b]; rfl) (by rw [star_of h2, star_of h3, star_of h3b]; rfl), fun _ => rfl⟩
  | .revR a, X, W, tg, e, G, h => by
    unfold okI at h; split at h <;> try contradiction
    rename_i heq; cases heq
    simp only [Bool.and_eq_true] at h
    obtain ⟨⟨⟨h1, h2⟩, h3⟩, h4⟩ := h
    obtain ⟨rfl, g1, o1⟩ := bltB_of h1
    obtain ⟨rfl, g2, o2⟩ := bltB_of h2
    exact ⟨s_revR rfl g2 (G.blt _ (by decide)) rfl g1 (G.blt _ (by decide)) (ok_E a G h4).pe (star_of h3), fun _ => rfl⟩
  | .rev c, X, W, tg, e, G, h => by
    unfold okI at h; split at h <;> try contradiction
    rename_i heq; cases heq
    simp only [Bool.and_eq_true] at h
    obtain ⟨⟨h1, h2⟩, h3⟩ := h
    obtain ⟨rfl, g1, o1⟩ := bltB_of h1
    exact ⟨s_rev rfl g1 (G.blt _ (by decide)) (ok_E c G h3).pe (star_of h2), fun _ => rfl⟩
  | .revR2 a b, X, W, tg, e, G, h => by
    unfold okI at h; contradiction
  | .enum c, X, W, tg, e, G, h => by
    unfold okI at h; split at h <;> try contradiction
    rename_i heq; cases heq
    simp only [Bool.and_eq_true] at h
    obtain ⟨⟨h1, h2⟩, h3⟩ := h
    obtain ⟨rfl, g1, o1⟩ := bltB_of h1
    exact ⟨s_enum rfl g1 (G.blt _ (by decide)) (ok_E c G h3).pe (star_of h2), fun _ => rfl⟩
  | .zip a b, X, W, tg, e, G, h => by
    unfold okI at h; split at h <;> try contradiction
    rename_i heq; cases heq
    simp only [Bool.and_eq_true] at h
    obtain ⟨⟨⟨⟨h1, h2⟩, h3⟩, h4⟩, h5⟩ := h
    obtain ⟨rfl, g1, o1⟩ := bltB_of h1
    exact ⟨s_zip rfl g1 (G.blt _ (by decide)) (ok_E a G h4).pe (ok_E b G h5).pe h2 h3 (star_of h2) (star_of h3), fun _ => rfl⟩
end
end
end MS
namespace MS
open PySem PySem.Spec PyProof.Rows L2
/-! ### which core statement stands for which statement of the program -/
def swB (sc : Scope) (x : Str) (px : Pos) : Expr → Bool
  | .ListComp _ _ scope pos => decide (sc.names.lookup x = some .local) && px.line == pos.line && !(scope.names.any fun (n, k) => n == x && (k == .local || k == .cell))
  | _ => false
def isComp2 : Expr → Bool
  | .SetComp .. => true
  | .DictComp .. => true
  | _ => false
def isLc : Expr → Bool
  | .ListComp .. => true
  | _ => false
def isTup : Expr → Bool
  | .Tuple .. => true
  | _ => false
def augOp : Prim → Option Operator
  | .add => some .Add | .sub => some .Sub | .mul => some .Mult | .fdiv => some .FloorDiv
  | _ => none
section
variable (N : List Str) (sc : Scope)
def nmB (io : List Nat) (i : Nat) (x : Str) : Bool := !(io.contains i) && decide (N[i]? = some x) && locB sc x && okName x
def isC : E → Bool
  | .comp .. => true
  | _ => false
def dsOk (fs : Fs) (io : List Nat) : DS → Stmt → (Expr → Bool) → (Expr → Bool) → (List Nat → List Stmt → Bool) → Bool
  | .forI n r, .For (.Tuple elts kk tp) (.Call (.Attribute (.Call (.Name y py) (a :: as) [] pc) m ap) [] [] cp) body [] _, rk, _, rb => fs.calm && decide (m = Str.ofString "items") && (ap.endLine == cp.line) && okT sc N (.tup [n, r]) (.Tuple elts kk tp) && !(io.contains n) && !(io.contains r) && rk (.Call (.Name y py) (a :: as) [] pc) && rb io body
  | .setd i, .Assign [.Subscript (.Name x _) kx _] v _, rk, re, _ => nameB sc N i x && notSl kx && !isComp2 v && rk kx && re v
  | .swpd i a b, .Assign [.Tuple [.Subscript (.Name x1 _) q1 _, .Subscript (.Name x2 _) q2 _] _ _] (.Tuple [.Subscript (.Name x3 _) q3 _, .Subscript (.Name x4 _) q4 _] _ _) _, _, _, _ => fs.calm && nameB sc N i x1 && decide (x2 = x1) && decide (x3 = x1) && decide (x4 = x1) && okA sc N a q1 && okA sc N b q2 && okA sc N b q3 && okA sc N a q4
  | .swpl i a b, .Assign [.Tuple [.Subscript (.Name x1 _) q1 _, .Subscript (.Name x2 _) q2 _] _ _] (.Tuple [.Subscript (.Name x3 _) q3 _, .Subscript (.Name x4 _) q4 _] _ _) _, _, _, _ => fs.calm && nameB sc N i x1 && decide (x2 = x1) && decide (x3 = x1) && decide (x4 = x1) && okA sc N a q1 && okA sc N b q2 && okA sc N b q3 && okA sc N a q4
  | .ins i a, .Expr (.Call (.Attribute (.Name x _) m ap) [k1, v] [] cp) _, _, re, _ => nameB sc N i x && okA sc N a k1 && decide (m = Str.ofString "insert") && (ap.endLine == cp.line) && notStar k1 && notStar v && re v
  | .setsl i lo hi, .Assign [.Subscript (.Name x _) (.Slice (some l) (some h) none _) _] v _, _, re, _ => nameB sc N i x && okA sc N lo l && okA sc N hi h && !isComp2 v && re v
  | .setdO i a, .Assign [.Subscript (.Name x _) kx _] (.List [] _) _, _, _, _ => nameB sc N i x && okA sc N a kx
  | .appd i a e, .Expr (.Call (.Attribute (.Subscript (.Name x _) k1 _) m ap) [v] [] cp) _, _, _, _ => nameB sc N i x && okA sc N a k1 && okA sc N e v && decide (m = Str.ofString "append") && (ap.endLine == cp.line) && notStar v
  | .forD i n r, .For (.Name tn pt) (.Name x _) (.Assign [.Name tr pr] (.Subscript (.Name x2 _) (.Name tn2 _) _) _ :: body) [] _, _, _, rb => fs.calm && nameB sc N i x && decide (x2 = x) && decide (tn2 = tn) && nmB N sc (i :: io) n tn && nmB N sc (i :: io) r tr && decide (n ≠ r) && rb (i :: io) body
  | _, _, _, _, _ => false
mutual
def okS (io : List Nat) (fs : Fs) : S → Stmt → Bool
  | .never, _ => true
  | .pass, .Expr (.Constant (.str _) _ _) _ => true
  | .pass, .Pass _ => true
  | .brk, .Break _ => true
  | .cont, .Continue _ => true
  | .retN, .Return none _ => true
  | .ret e, .Return (some x) _ => okE fs N sc e x
  | .expr e, .Expr x _ => !isComp2 x && !isLc x && okE fs N sc e x
  | .set i e, .Assign [.Name x px] v _ => nmB N sc io i x && !isComp2 v && (isC e || !isLc v) && okE fs N sc e v
  | .unp is e, .Assign [.Tuple ts k p] v _ => fs.calm && (is.all fun i => !io.contains i) && okTs sc N is ts && !isComp2 v && !isTup v && okE fs N sc e v
  | .par i j a b, .Assign [.Tuple [.Name x px, .Name y py] _ _] (.Tuple [u, v] _ _) _ => fs.calm && nmB N sc io i x && nmB N sc io j y && decide (i ≠ j) && decide (x ≠ y) && decide (sc.names.lookup x = some .local) && decide (sc.names.lookup y = some .local) && py.line == px.line
      && !([u, v].all (foldedForSure 8)) && !([u, v].all (constantsAlone 8)) && notStar u && notStar v && okE fs N sc a u && okE fs N sc b v
  | .aug i o e, .AugAssign (.Name x _) op v _ => nmB N sc io i x && decide (augOp o = some op) && okE fs N sc e v
  | .app i e, .Expr (.Call (.Attribute (.Name x _) m ap) [v] [] cp) _ => nameB sc N i x && decide (m = Str.ofString "append") && (ap.endLine == cp.line) && notStar v && okE fs N sc e v
  | .ext i e, .Expr (.Call (.Attribute (.Name x _) m ap) [v] [] cp) _ => nameB sc N i x && decide (m = Str.ofString "extend") && (ap.endLine == cp.line) && notStar v && okE fs N sc e v
  | .extT i e, .Expr (.Call (.Attribute (.Name x _) m ap) [v] [] cp) _ => nameB sc N i x && decide (m = Str.ofString "extend") && (ap.endLine == cp.line) && notStar v && okE fs N sc e v
  | .rvs i, .Expr (.Call (.Attribute (.Name x _) m ap) [] [] cp) _ => nameB sc N i x && decide (m = Str.ofString "reverse") && (ap.endLine == cp.line)
  | .clr i, .Expr (.Call (.Attribute (.Name x _) m ap) [] [] cp) _ => nameB sc N i x && decide (m = Str.ofString "clear") && (ap.endLine == cp.line)
  | .setix i k e, .Assign [.Subscript (.Name x _) kx _] v _ => nameB sc N i x && notSl kx && !isComp2 v && okE fs N sc k kx && okE fs N sc e v
  | .setix1 i a b e, .Assign [.Subscript (.Subscript (.Name x _) k1 _) k2 _] v _ => nameB sc N i x && okA sc N a k1 && okA sc N b k2 && !isComp2 v && okE fs N sc e v
  | .setk i j e, .Assign [.Subscript (.Name x _) (.Name y _) _] v _ => nameB sc N i x && nameB sc N j y && !isComp2 v && okE fs N sc e v
  | .dst o u e b, st => dsOk N sc fs io o st (fun y => okE fs N sc u y) (fun y => okE fs N sc e y) (fun io' sts => okSs io' fs b sts)
  | .setO i t it c e, .Assign [.Name x px] (.ListComp elt gs scope p2) _ => nmB N sc io i x && okE fs N sc (.comp t it c e) (.ListComp elt gs scope p2)
  | .swp1 i a b c, .Assign [.Tuple [.Subscript (.Subscript (.Name x1 _) e1 _) q1 _, .Subscript (.Subscript (.Name x2 _) e2 _) q2 _] _ _] (.Tuple [.Subscript (.Subscript (.Name x3 _) e3 _) q3 _, .Subscript (.Subscript (.Name x4 _) e4 _) q4 _] _ _) _ =>
    fs.calm && nameB sc N i x1 && decide (x2 = x1) && decide (x3 = x1) && decide (x4 = x1) && okA sc N a e1 && okA sc N a e2 && okA sc N a e3 && okA sc N a e4 && okA sc N b q1 && okA sc N c q2 && okA sc N c q3 && okA sc N b q4
  | .app1 i a e, .Expr (.Call (.Attribute (.Subscript (.Name x _) k1 _) m ap) [v] [] cp) _ => nameB sc N i x && okA sc N a k1 && okA sc N e v && decide (m = Str.ofString "append") && (ap.endLine == cp.line) && notStar v
  | .ife c a b, .If x ys zs _ => notIf x && okE fs N sc c x && okSs io fs a ys && okSs io fs b zs
  | .for_ t it b, .For tg iter body [] _ => fs.calm && okI fs N sc it tg iter && okT sc N t tg && (t.slots.all fun i => !io.contains i) && okSs io fs b body
  | .forA s i j e b, .For tg (.Subscript (.Tuple [.Name x _, .Name y _] _ _) (.Slice none (some u) none _) _) body [] _ => fs.calm && nameB sc N i x && nameB sc N j y && okT sc N (.name s) tg && !(io.contains s) && decide (i ≠ j) && decide (s ≠ i) && decide (s ≠ j) && okE fs N sc e u && okSs (s :: i :: j :: io) fs b body
  | .whl c b, .While x body [] _ => notIf x && okE fs N sc c x && okSs io fs b body
  | .raise c, .Raise (some (.Call (.Name x _) [.Constant (.str _) _ _] [] _)) none _ => fs.calm && fs.cls.contains c && c != "NoDigit" && decide (x = Str.ofString c) && glB sc x
  | .raiseF c n e, .Raise (some (.Call (.Name x _) [a] [] _)) none _ => fs.calm && fs.cls.contains c && c == "NoDigit" && n == "place" && decide (x = Str.ofString c) && glB sc x && notStar a && okE fs N sc e a
  | .try_ b c none h, .Try body [.ExceptHandler (some (.Name x _)) none (s0 :: rest) _] [] [] _ => fs.calm && fs.cls.contains c && decide (x = Str.ofString c) && glB sc x && okSs io fs b body && okSs io ⟨[], fs.cls, false⟩ h (s0 :: rest)
  | .try_ b c (some i) h, .Try body [.ExceptHandler (some (.Name x _)) (some n) (s0 :: rest) _] [] [] _ => fs.calm && fs.cls.contains c && decide (x = Str.ofString c) && glB sc x && decide (N[i]? = some n) && decide (sc.names.lookup n = some .local) && !io.contains i && okSs io fs b body && okSs io ⟨[], fs.cls, false⟩ h (s0 :: rest)
  | _, _ => false
def okSs (io : List Nat) (fs : Fs) : Ss → List Stmt → Bool
  | .nil, [] => true
  | .cons s ss, st :: sts => okS io fs s st && okSs io fs ss sts
  | _, _ => false
end
end
/-! ### the readings -/
structure Io (io : List Nat) (σ σ' : L2.St) : Prop where
  len : σ'.length = σ.length
  eq : ∀ i ∈ io, σ'[i]? = σ[i]?
theorem Io.refl {io : List Nat} {σ : L2.St} : Io io σ σ := ⟨rfl, fun _ _ => rfl⟩
theorem Io.trans {io : List Nat} {σ σ1 σ2 : L2.St} (a : Io io σ σ1) (b : Io io σ1 σ2) : Io io σ σ2 := ⟨b.len.trans a.len, fun i h => (b.eq i h).trans (a.eq i h)⟩
theorem Io.weak {io io' : List Nat} {σ σ' : L2.St} (s : ∀ i ∈ io, i ∈ io') (h : Io io' σ σ') : Io io σ σ' := ⟨h.len, fun i hi => h.eq i (s i hi)⟩
theorem Io.set {io : List Nat} {σ : L2.St} {i : Nat} {v : Option V} (h : io.contains i = false) : Io io σ (σ.set i v) := ⟨List.length_set, fun j hj => List.getElem?_set_ne fun e => by
  subst e
  rw [List.contains_eq_mem, decide_eq_false_iff_not] at h
  exact h hj⟩
theorem Reach.finG {K : PySem.W.Frag} {F F1 F2 : Addr → Prop} {H H1 H2 : Hp} {σ : L2.St} {f f1 f2 g2 : List Addr} {ρ2 : Rho} (a : Reach K F H f F1 H1 f1) (b : FinG K F1 H1 σ f1 F2 H2 ρ2 f2 g2) : FinG K F H σ f F2 H2 ρ2 f2 g2 :=
  ⟨b.rep, b.nd, b.off, fun x hx => by
    rcases b.sub x hx with z | z
    · exact a.sub x z
    · exact .inr (a.none z), b.lst, a.chg.trans b.chg a.sub⟩
def XOkS (X : Cx) (W : WX) (io : List Nat) (F : Addr → Prop) (H : Hp) (σ : L2.St) (f : List Addr) (xe : XE) : Prop :=
  ∀ x ρ' F' H' σ' f' cls d, Rep X.K F' H' σ' ρ' f' → Reach X.K F H f F' H' f' → Io io σ σ' → ExR X.K X.mg F' H' x cls d → xe x ρ' → W cls d σ' H'
theorem XOkS.x {X : Cx} {W : WX} {io : List Nat} {F : Addr → Prop} {H : Hp} {σ : L2.St} {f : List Addr} {xe : XE} (h : XOkS X W io F H σ f xe) : XOk X W F H σ f xe :=
  fun x ρ' F' H' f' cls d r s c e q => h x ρ' F' H' σ f' cls d r ⟨c, s⟩ .refl e q
theorem XOkS.move {X : Cx} {W : WX} {io : List Nat} {F F1 : Addr → Prop} {H H1 : Hp} {σ σ1 : L2.St} {f f1 : List Addr} {xe : XE} (h : XOkS X W io F H σ f xe) (a : Reach X.K F H f F1 H1 f1) (i : Io io σ σ1) : XOkS X W io F1 H1 σ1 f1 xe :=
  fun x ρ' F' H' σ' f' cls d r s c e q => h x ρ' F' H' σ' f' cls d r (a.trans s) (i.trans c) e q
structure KOk (K : PySem.W.Frag) (io : List Nat) (F : Addr → Prop) (H : Hp) (σ : L2.St) (f : List Addr) (k : Kt) (D : Ends) : Prop where
  nx : ∀ F' H' σ' ρ' f', Rep K F' H' σ' ρ' f' → Reach K F H f F' H' f' → Io io σ σ' → k.nx ρ' → D.nx σ' H'
  bk : ∀ F' H' σ' ρ' f', Rep K F' H' σ' ρ' f' → Reach K F H f F' H' f' → Io io σ σ' → k.bk ρ' → D.bk σ' H'
  ct : ∀ F' H' σ' ρ' f', Rep K F' H' σ' ρ' f' → Reach K F H f F' H' f' → Io io σ σ' → k.ct ρ' → D.ct σ' H'
  rt : ∀ v F' H' σ' ρ' f' g e, FinG K F H σ' f F' H' ρ' f' g → Io io σ σ' → Ow K F' H' e.d e.p v g → k.rt e ρ' → D.rt v H'
theorem KOk.move {K : PySem.W.Frag} {io : List Nat} {F F1 : Addr → Prop} {H H1 : Hp} {σ σ1 : L2.St} {f f1 : List Addr} {k : Kt} {D : Ends} (h : KOk K io F H σ f k D) (a : Reach K F H f F1 H1 f1) (i : Io io σ σ1) : KOk K io F1 H1 σ1 f1 k D :=
  ⟨fun F' H' σ' ρ' f' r s c q => h.nx F' H' σ' ρ' f' r (a.trans s) (i.trans c) q, fun F' H' σ' ρ' f' r s c q => h.bk F' H' σ' ρ' f' r (a.trans s) (i.trans c) q, fun F' H' σ' ρ' f' r s c q => h.ct F' H' σ' ρ' f' r (a.trans s) (i.trans c) q,
    fun v F' H' σ' ρ' f' g e s c o q => h.rt v F' H' σ' ρ' f' g e (a.finG s) (i.trans c) o q⟩
section
variable (Φ : String → Spec) (X : Cx) (W : WX) (io : List Nat)
def tS (s : S) : TS := fun D σ H => ∃ (F : Addr → Prop) (ρ : Rho) (f : List Addr) (k : Kt), Rep X.K F H σ ρ f ∧ XOkS X W io F H σ f k.xe ∧ wpS Φ s ρ k ∧ KOk X.K io F H σ f k D
def tSs (s : Ss) : TS := fun D σ H => ∃ (F : Addr → Prop) (ρ : Rho) (f : List Addr) (k : Kt), Rep X.K F H σ ρ f ∧ XOkS X W io F H σ f k.xe ∧ wpSs Φ s ρ k ∧ KOk X.K io F H σ f k D
end
/-- where a def's statements run -/
structure GdS (fs : Fs) (Φ : String → Spec) (X : Cx) (W : WX) : Prop extends Gd fs Φ X W where
  kind : X.env.scope.kind = .function
  fnt : ∀ x, X.fn x = true
  po : PassesOwn (model X.prog X.w) X.A X.env X.xe
  stk : X.stack = X.env :: X.outer
  frm : X.env.frame = some X.env.locals
  nex : X.ex = []
section
variable {fs : Fs} {Φ : String → Spec} {X : Cx} {W : WX} {io : List Nat}
theorem PS.imp {st : Stmt} {t t' : TS} (h : PS X st t) (i : ∀ D σ H, σ.length = X.N.length → t' D σ H → t D σ H) : PS X st t' := ⟨fun pins s σ H D I q => h.run pins s σ H D I (i _ _ _ I.len q)⟩
theorem PSs.imp {st : List Stmt} {t t' : TS} (h : PSs X st t) (i : ∀ D σ H, t' D σ H → t D σ H) : PSs X st t' := ⟨fun pins s σ H D I q => h.run pins s σ H D I (i _ _ _ q)⟩
theorem ss_nil : PSs X [] (tSs Φ X W io .nil) := PSs.imp pss_nil fun D σ H ⟨F, ρ, f, k, r, x, w, K⟩ => by
  simp only [wpSs] at w
  exact K.nx F H σ ρ f r .refl .refl w
theorem ss_cons {s : S} {ss : Ss} {st : Stmt} {sts : List Stmt} (h1 : PS X st (tS Φ X W io s)) (h2 : PSs X sts (tSs Φ X W io ss)) : PSs X (st :: sts) (tSs Φ X W io (.cons s ss)) := PSs.imp (pss_cons h1 h2) fun D σ H ⟨F, ρ, f, k, r, x, w, K⟩ => by
  simp only [wpSs] at w
  exact ⟨F, ρ, f, { k with nx := fun ρ' => wpSs Φ ss ρ' k }, r, x, w, fun F' H' σ' ρ' f' r' s' c q => ⟨F', ρ', f', k, r', x.move s' c, q, K.move s' c⟩, K.bk, K.ct, K.rt⟩
theorem st_never {st : Stmt} : PS X st (tS Φ X W io .never) := PS.imp ps_never fun D σ H _ ⟨F, ρ, f, k, r, x, w, K⟩ => by
  simp only [wpS] at w
theorem st_pass {st : Stmt} (h : PS X st tNext) : PS X st (tS Φ X W io .pass) := PS.imp h fun D σ H _ ⟨F, ρ, f, k, r, x, w, K⟩ => by
  simp only [wpS] at w
  exact K.nx F H σ ρ f r .refl .refl w
theorem st_brk {pos : Pos} : PS X (.Break pos) (tS Φ X W io .brk) := PS.imp ps_break fun D σ H _ ⟨F, ρ, f, k, r, x, w, K⟩ => by
  simp only [wpS] at w
  exact K.bk F H σ ρ f r .refl .refl w
theorem st_cont {pos : Pos} : PS X (.Continue pos) (tS Φ X W io .cont) := PS.imp ps_continue fun D σ H _ ⟨F, ρ, f, k, r, x, w, K⟩ => by
  simp only [wpS] at w
  exact K.ct F H σ ρ f r .refl .refl w
theorem st_retN {pos : Pos} : PS X (.Return none pos) (tS Φ X W io .retN) := PS.imp ps_retN fun D σ H _ ⟨F, ρ, f, k, r, x, w, K⟩ => by
  simp only [wpS] at w
  exact K.rt .non F H σ ρ f [] (sh .none) (.refl r) .refl (Ow_sh.mpr ⟨rfl, dv_non⟩) w
theorem st_ret {e : E} {x : Expr} {pos : Pos} (h : PE X x (tE Φ X W e)) : PS X (.Return (some x) pos) (tS Φ X W io (.ret e)) := PS.imp (ps_ret h) fun D σ H _ ⟨F, ρ, f, k, r, x, w, K⟩ => by
  simp only [wpS] at w
  exact ⟨F, ρ, f, _, _, r, x.x, w, fun v F' H' e ρ' f' g fin o q => K.rt v F' H' σ ρ' f' g e fin .refl o q⟩
theorem st_expr {e : E} {x : Expr} {pos : Pos} (h : PE X x (tE Φ X W e)) (hs : swapsWith x none pos.line X.env = pure false) : PS X (.Expr x pos) (tS Φ X W io (.expr e)) := PS.imp (ps_expr h hs) fun D σ H _ ⟨F, ρ, f, k, r, x, w, K⟩ => by
  simp only [wpS] at w
  exact ⟨F, ρ, f, _, _, r, x.x, w, fun v F' H' e ρ' f' g fin o q => K.nx F' H' σ ρ' f' fin.rep fin.reach .refl q⟩
theorem st_ife {c : E} {a b : Ss} {x : Expr} {ys zs : List Stmt} {pos : Pos} (hc : PT X x (tTst Φ X W c)) (ha : PSs X ys (tSs Φ X W io a)) (hb : PSs X zs (tSs Φ X W io b)) : PS X (.If x ys zs pos) (tS Φ X W io (.ife c a b)) := PS.imp (ps_if hc ha hb) fun D σ H _ ⟨F, ρ, f, k, r, x, w, K⟩ => by
  simp only [wpS] at w
  refine ⟨F, ρ, f, _, _, r, x.x, w, fun t F' H' ρ' f' fin q => ?_⟩
  cases t with
  | true => exact ⟨F', ρ', f', k, fin.rep, x.move fin.reach .refl, q, K.move fin.reach .refl⟩
  | false => exact ⟨F', ρ', f', k, fin.rep, x.move fin.reach .refl, q, K.move fin.reach .refl⟩
theorem nm_of {i : Nat} {x : Str} (h : nmB X.N X.env.scope io i x = true) : io.contains i = false ∧ X.N[i]? = some x ∧ Loc X.env.scope x ∧ nameB X.env.scope X.N i x = true := by
  unfold nmB at h
  simp only [Bool.and_eq_true, Bool.not_eq_true', decide_eq_true_eq] at h
  obtain ⟨⟨⟨h1, h2⟩, h3⟩, h4⟩ := h
  refine ⟨h1, h2, loc_of h3, ?_⟩
  unfold nameB
  simp only [Bool.and_eq_true, decide_eq_true_eq]
  refine ⟨⟨h2, ?_⟩, h4⟩
  unfold visB
  rcases loc_of h3 with e | e <;> rw [e]
/-- a value is stored -/
theorem put_ok {K : PySem.W.Frag} {F F' : Addr → Prop} {H H' : Hp} {σ : L2.St} {f f' g : List Addr} {ρ' : Rho} {i : Nat} {v : V} {e : Ety} (fin : FinG K F H σ f F' H' ρ' f' g) (hi : i < ρ'.length) (o : Ow K F' H' e.d e.p v g) :
    ∃ f2, Rep K F' H' (σ.set i (some v)) (ρ'.set i (some e)) f2 ∧ Reach K F H f F' H' f2 := by
  obtain ⟨f2, h1, r⟩ := fin.rep.put hi o fin.nd fin.off
  exact ⟨f2, r, fin.chg, fun a ha => fin.sub a (h1 a ha)⟩
theorem lt_of_N {K : PySem.W.Frag} {F : Addr → Prop} {H : Hp} {σ : L2.St} {ρ : Rho} {f : List Addr} {N : List Str} {i : Nat} {x : Str} (r : Rep K F H σ ρ f) (hl : σ.length = N.length) (h : N[i]? = some x) : i < ρ.length := by
  have h1 := r.sl.length
  have := (List.getElem?_eq_some_iff.mp h).1
  omega
theorem i_set {i : Nat} {x : Str} {e : E} (hi : X.N[i]? = some x) (hn : io.contains i = false) {D : Ends} {σ : L2.St} {H : Hp} (hlen : σ.length = X.N.length) : tS Φ X W io (.set i e) D σ H → tE Φ X W e σ H fun v H1 => D.nx (σ.set i (some v)) H1 := fun ⟨F, ρ, f, k, r, x, w, K⟩ => by
  simp only [wpS] at w
  refine ⟨F, ρ, f, _, _, r, x.x, w, fun v F' H' e ρ' f' g fin o q => ?_⟩
  obtain ⟨f2, r2, s2⟩ := put_ok fin (lt_of_N fin.rep hlen hi) o
  exact K.nx F' H' _ _ f2 r2 s2 (Io.set hn) q
theorem st_set {i : Nat} {x : Str} {e : E} {v : Expr} {px pos : Pos} (G : GdS fs Φ X W) (hi : nmB X.N X.env.scope io i x = true) (h : PE X v (tE Φ X W e)) (hs : swapsWith v (some (.Name x px)) pos.line X.env = pure false) : PS X (.Assign [.Name x px] v pos) (tS Φ X W io (.set i e)) := by
  obtain ⟨h1, h2, h3, _⟩ := nm_of hi
  exact PS.imp (ps_set G.nd h2 h3 h hs (.inl (G.fnt x))) fun D σ H hlen z => i_set h2 h1 hlen z
/-- what a swap says -/
theorem sw_val {elt : Expr} {gs : List Comprehension} {scope : Scope} {pos py : Pos} {y : Str} {l : Nat} {env : Env} (hk : env.scope.kind = .function) : swapsWith (.ListComp elt gs scope pos) (some (.Name y py)) l env = pure (swB env.scope y py (.ListComp elt gs scope pos)) := by
  have hb : env.blockKind = .function := by unfold Env.blockKind; rw [hk]; rfl
  unfold swapsWith swB
  simp only [hb, Env.kindOf, Expr.pos]
  congr 1
  by_cases e : env.scope.names.lookup y = some .local <;> simp [e]
end
end MS
namespace MS
open PySem PySem.Spec PyProof.Rows L2
section
variable {fs : Fs} {Φ : String → Spec} {X : Cx} {W : WX} {io : List Nat}
theorem st_setix1 {i : Nat} {x : Str} {p p1 sp pos : Pos} {k1 k2 v : Expr} {a b : A} {e : E} (h : nameB X.env.scope X.N i x = true) (h1 : okA X.env.scope X.N a k1 = true) (h2 : okA X.env.scope X.N b k2 = true) (he : PE X v (tE Φ X W e)) (hv : isComp2 v = false) :
    PS X (.Assign [.Subscript (.Subscript (.Name x p) k1 p1) k2 sp] v pos) (tS Φ X W io (.setix1 i a b e)) := by
  have hs : swapsWithSole [.Subscript (.Subscript (.Name x p) k1 p1) k2 sp] v pos.line X.env = pure false := by
    cases v <;> first | rfl | simp [isComp2] at hv
  have hw : swappedStores [.Subscript (.Subscript (.Name x p) k1 p1) k2 sp] v X.env = pure none := by
    cases v <;> rfl
  have hA : ∀ v, assign (.Subscript (.Subscript (.Name x p) k1 p1) k2 sp) X.env v = (do
      let ov ← holding [v] (eval (.Subscript (.Name x p) k1 p1) X.env)
      let iv ← holding [v, ov] (eval k2 X.env)
      standAt sp
      holding [v, ov, iv] (setItem ov iv v)
      release [v, ov, iv] []) := by
    intro v
    cases k2 <;> first | rfl | (cases b <;> simp [okA] at h2)
  refine PS.imp (ps_asg he (pg_sub (pe_ix ix_list (pe_nm h) (pe_A a h1) (okA_plain h1)) (pe_A b h2) set_list hA) hs hw) fun D σ H _ ⟨F, ρ, f, k, r, xo, w, K⟩ => ?_
  simp only [wpS] at w
  refine ⟨F, ρ, f, _, _, r, xo.x, w, fun v F1 H1 e1 ρ1 f1 g1 fin o q => ?_⟩
  obtain ⟨hp, q⟩ := q
  obtain ⟨xs, j, n, ys, q1, q2, q3, q4, l, m, q5, q6, q⟩ := onNst_some q
  obtain ⟨a0, av, b0, bv, k1, k2, k3, k4, k5, k6, k7⟩ := fin.rep.nst q1 q4
  obtain ⟨p1, d1⟩ := e1
  have hp : p1 = .sh := hp
  subst hp
  obtain ⟨rfl, od⟩ := Ow_sh.mp o
  obtain ⟨f', s1, c, r'⟩ := k7 (ys.set m d1) (bv.set m v) (k6.set m od)
  refine ⟨_, k1, j, ev_rel fin.rep q2, a0, av, j, .ref b0, rfl, rfl, .of k2, atI_of (by rw [k3]; exact q3) k4, l, ev_rel fin.rep q5, b0, bv, l, m, rfl, rfl, k5, by rw [k6.length]; exact q6, ?_⟩
  exact K.nx F1 _ σ _ f' r' ⟨fin.chg.trans c fin.sub', fun x hx => fin.sub' x (s1 x hx)⟩ .refl q
theorem st_app1 {i : Nat} {x m : Str} {p p1 ap cp pos : Pos} {k1 v : Expr} {a e : A} (h : nameB X.env.scope X.N i x = true) (h1 : okA X.env.scope X.N a k1 = true) (h2 : okA X.env.scope X.N e v = true) (hm : m = Str.ofString "append") (hl : (ap.endLine == cp.line) = true) (hs : starEach [v] X.env = [(false, eval v X.env)]) :
    PS X (.Expr (.Call (.Attribute (.Subscript (.Name x p) k1 p1) m ap) [v] [] cp) pos) (tS Φ X W io (.app1 i a e)) := by
  subst hm
  refine PS.imp (ps_expr (pe_bm PySem.F.plainAttrs_list PySem.F.slot_list_append PySem.F.type_list_append mt_append (pe_ix ix_list (pe_nm h) (pe_A a h1) (okA_plain h1)) (pa_cons (pe_A e h2) pa_nil hs) (hline := hl) (hs := hs) (hfew := by rw [hs]; rfl))) fun D σ H _ ⟨F, ρ, f, k, r, xo, w, K⟩ => ?_
  simp only [wpS] at w
  obtain ⟨xs, j, n, ys, q1, q2, q3, q4, l, q5, q6, q⟩ := onNst_some w
  obtain ⟨a0, av, b0, bv, k1, k2, k3, k4, k5, k6, k7⟩ := r.nst q1 q4
  obtain ⟨f', s1, c, r'⟩ := k7 (ys ++ [.int l]) (bv ++ [.int l]) (dvA_append k6 (DvA_cons.mpr ⟨_, _, rfl, dv_int, DvA_nil.mpr rfl⟩))
  refine ⟨_, k1, j, ev_rel r q2, a0, av, j, .ref b0, rfl, rfl, .of k2, atI_of (by rw [k3]; exact q3) k4, tyL k5, l, ev_rel r q5, b0, bv, .int l, rfl, rfl, k5, by rw [k6.length]; exact q6, ?_⟩
  exact K.nx F _ σ _ f' r' ⟨c, fun x hx => .inl (s1 x hx)⟩ .refl q
end
end MS
namespace MS
open PySem PySem.Spec PyProof.Rows L2
section
variable {fs : Fs} {Φ : String → Spec} {X : Cx} {W : WX} {io : List Nat}
theorem st_setk {i j : Nat} {x y : Str} {p py sp pos : Pos} {v : Expr} {e : E} (hu : X.A.units + 1 < cLine) (h : nameB X.env.scope X.N i x = true) (h2 : nameB X.env.scope X.N j y = true) (he : PE X v (tE Φ X W e)) (hv : isComp2 v = false) :
    PS X (.Assign [.Subscript (.Name x p) (.Name y py) sp] v pos) (tS Φ X W io (.setk i j e)) := by
  have hs : swapsWithSole [.Subscript (.Name x p) (.Name y py) sp] v pos.line X.env = pure false := by
    cases v <;> first | rfl | simp [isComp2] at hv
  have hw : swappedStores [.Subscript (.Name x p) (.Name y py) sp] v X.env = pure none := by
    cases v <;> rfl
  have hA : ∀ v, assign (.Subscript (.Name x p) (.Name y py) sp) X.env v = (do
      let ov ← holding [v] (eval (.Name x p) X.env)
      let iv ← holding [v, ov] (eval (.Name y py) X.env)
      standAt sp
      holding [v, ov, iv] (setItem ov iv v)
      release [v, ov, iv] []) := fun _ => rfl
  refine PS.imp (ps_asg he (pg_sub (pe_nm h) (pe_nm h2) (set_dict hu) hA) hs hw) fun D σ H _ ⟨F, ρ, f, k, r, xo, w, K⟩ => ?_
  simp only [wpS] at w
  refine ⟨F, ρ, f, _, _, r, xo.x, w, fun v F1 H1 e1 ρ1 f1 g1 fin o q => ?_⟩
  obtain ⟨hp, hk, l, q1, q2, hz, q⟩ := q
  obtain ⟨p1, d1⟩ := e1
  have hp : p1 = .sh := hp
  subst hp
  obtain ⟨rfl, od⟩ := Ow_sh.mp o
  obtain ⟨a, qs, k1, k2, k3, k4⟩ := fin.rep.dct q1
  obtain ⟨b, k5, k6⟩ := key_at fin.rep q2
  obtain ⟨f', s1, c, r'⟩ := k4 (pK hk l d1) (pK qs l v) (k3.put od)
  refine ⟨_, k1, _, k5, a, _, rfl, DPut.t k2 k6 (by simp only [List.length_map]; rw [k3.length]; exact hz), ?_⟩
  rw [putK_hk]
  exact K.nx F1 _ σ _ f' r' ⟨fin.chg.trans c fin.sub', fun x hx => fin.sub' x (s1 x hx)⟩ .refl q
end
end MS
namespace MS
open PySem PySem.Spec PyProof.Rows L2
section
variable {fs : Fs} {Φ : String → Spec} {X : Cx} {W : WX} {io : List Nat}
theorem isLst_some {e : Ety} {f : Perm → List D → Prop} (h : isLst e f) : ∃ p xs, e = ⟨p, .list xs⟩ ∧ f p xs := by
  obtain ⟨p, d⟩ := e
  cases d <;> first | exact h.elim | exact ⟨_, _, rfl, h⟩
theorem tupOf_some {e : Ety} {ds : List D} (h : tupOf e = some ds) : (∃ p, e = ⟨p, .tuple ds⟩) ∨ ∃ p, p.el = true ∧ e = ⟨p, .list ds⟩ := by
  unfold tupOf at h
  split at h
  · cases h; exact .inl ⟨_, rfl⟩
  · cases h; exact .inr ⟨_, rfl, rfl⟩
  · cases h; exact .inr ⟨_, rfl, rfl⟩
  · cases h
theorem onOwn_some {ρ : Rho} {i : Nat} {f : Perm → List D → Prop} (h : onOwn ρ i f) : ∃ p xs, ρ.at i = some ⟨.own p, .list xs⟩ ∧ f p xs := by
  unfold onOwn at h
  split at h
  · exact ⟨_, _, by assumption, h⟩
  · exact h.elim
/-- a list of the def's own is changed in place: what follows -/
theorem Rep.own2 {K : PySem.W.Frag} {F : Addr → Prop} {H : Hp} {σ : L2.St} {ρ : Rho} {f : List Addr} {i : Nat} {p : Perm} {ds : List D} (r : Rep K F H σ ρ f) (h : ρ.at i = some ⟨.own p, .list ds⟩) :
    ∃ a av g, σ[i]? = some (some (.ref a)) ∧ H a = some (.lst av) ∧ OwA K F H ds p av g ∧ g.Nodup ∧ (∀ x ∈ g, x ∈ f) ∧
      ∀ (ds' : List D) (av' : List V) (g' gt : List Addr), OwA K F H ds' p av' g' → g'.Nodup → (∀ x ∈ g', x ∈ g ∨ x ∈ gt) → (∀ x ∈ gt, x ∉ f ∧ ¬ F x ∧ H x ≠ none) →
        ∃ f', (∀ x ∈ f', x ∈ f ∨ x ∈ gt) ∧ Chg F H F (upd H a (.lst av')) f ∧ Rep K F (upd H a (.lst av')) σ (ρ.set i (some ⟨.own p, .list ds'⟩)) f' := by
  obtain ⟨a, av, g, h1, h2, h3, h4, h5, h6, h7⟩ := r.own h
  exact ⟨a, av, g, h1, h2, h3, h5, fun x hx => h6 x (by simp [hx]), h7⟩
theorem st_app {i : Nat} {x m : Str} {p ap cp pos : Pos} {e : Expr} {c : E} (h : nameB X.env.scope X.N i x = true) (hm : m = Str.ofString "append") (hl : (ap.endLine == cp.line) = true) (h1 : PE X e (tE Φ X W c)) (hs : starEach [e] X.env = [(false, eval e X.env)]) :
    PS X (.Expr (.Call (.Attribute (.Name x p) m ap) [e] [] cp) pos) (tS Φ X W io (.app i c)) := by
  subst hm
  refine PS.imp (ps_expr (pe_bm PySem.F.plainAttrs_list PySem.F.slot_list_append PySem.F.type_list_append mt_append (pe_nm h) (pa_cons h1 pa_nil hs) (hline := hl) (hs := hs) (hfew := by rw [hs]; rfl))) fun D σ H _ ⟨F, ρ, f, k, r, xo, w, K⟩ => ?_
  simp only [wpS] at w
  obtain ⟨hb, w⟩ := w
  obtain ⟨p0, xs0, hb⟩ := ownB_at hb
  obtain ⟨a0, av0, g0, k1, k2, _⟩ := r.own hb
  refine ⟨_, k1, tyL k2, F, ρ, f, _, _, r, xo.x, w, fun v F1 H1 e1 ρ1 f1 g1 fin o q => ?_⟩
  obtain ⟨p, xs, he, hf, hz, q⟩ := onOwn_some q
  obtain ⟨a, av, g, h1, h2, h3, ng, mg, upd'⟩ := fin.rep.own2 he
  have ea : a0 = a := by have := k1.symm.trans h1; simpa using this
  subst ea
  obtain ⟨gv, ov, sv, nv⟩ := fits_ow hf o
  have n1 : g1.Nodup := (List.nodup_append.mp fin.nd).1
  obtain ⟨f', s1, c, r'⟩ := upd' (xs ++ [e1.d]) (av ++ [v]) (g ++ gv) gv (OwA.append h3 (OwA.one ov)) (List.nodup_append.mpr ⟨ng, nv n1, fun a ha b hb e => by
    subst e
    exact fin.apart a (sv a hb) (mg a ha)⟩) (fun x hx => List.mem_append.mp hx) (fun x hx => ⟨fin.apart x (sv x hx), fin.off x (sv x hx), fun z => by
      obtain ⟨xs, e⟩ := fin.lst x (sv x hx)
      rw [e] at z; cases z⟩)
  refine ⟨a0, av, v, rfl, rfl, h2, by rw [h3.length]; exact hz, K.nx F1 _ σ _ f' r' ⟨fin.chg.trans c fin.sub', fun x hx => ?_⟩ .refl q⟩
  rcases s1 x hx with z | z
  · exact fin.sub' x z
  · exact fin.sub x (List.mem_append_left _ (sv x z))
theorem st_ext {i : Nat} {x m : Str} {p ap cp pos : Pos} {e : Expr} {c : E} (h : nameB X.env.scope X.N i x = true) (hm : m = Str.ofString "extend") (hl : (ap.endLine == cp.line) = true) (h1 : PE X e (tE Φ X W c)) (hs : starEach [e] X.env = [(false, eval e X.env)]) :
    PS X (.Expr (.Call (.Attribute (.Name x p) m ap) [e] [] cp) pos) (tS Φ X W io (.ext i c)) := by
  subst hm
  refine PS.imp (ps_expr (pe_bm PySem.F.plainAttrs_list PySem.F.slot_list_extend PySem.F.type_list_extend mt_extend (pe_nm h) (pa_cons h1 pa_nil hs) (hline := hl) (hs := hs) (hfew := by rw [hs]; rfl))) fun D σ H _ ⟨F, ρ, f, k, r, xo, w, K⟩ => ?_
  simp only [wpS] at w
  obtain ⟨hb, w⟩ := w
  obtain ⟨p0, xs0, hb⟩ := ownB_at hb
  obtain ⟨a0, av0, g0, k1, k2, _⟩ := r.own hb
  refine ⟨_, k1, tyL k2, F, ρ, f, _, _, r, xo.x, w, fun v F1 H1 e1 ρ1 f1 g1 fin o q => ?_⟩
  obtain ⟨p, xs, he, hf, q⟩ := onOwn_some q
  subst hf
  obtain ⟨q0, ys, rfl, hq, hz, q⟩ := isLst_some q
  obtain ⟨b, zs, rfl, hb2, hd2⟩ := o.listTr hq
  obtain ⟨a, av, g, h1, h2, h3, ng, mg, upd'⟩ := fin.rep.own2 he
  have ea : a0 = a := by have := k1.symm.trans h1; simpa using this
  subst ea
  have h3 := (OwA_sh.mp h3).2
  obtain ⟨f', s1, c, r'⟩ := upd' (xs ++ ys) (av ++ zs) [] [] (OwA_sh.mpr ⟨rfl, dvA_append h3 hd2⟩) (by simp) (by simp) (by simp)
  refine ⟨a0, b, av, zs, rfl, rfl, h2, hb2, by rw [h3.length, hd2.length]; exact hz, K.nx F1 _ σ _ f' r' ⟨fin.chg.trans c fin.sub', fun x hx => ?_⟩ .refl q⟩
  rcases s1 x hx with z | z
  · exact fin.sub' x z
  · simp at z
theorem tupX_some {e : Ety} {ds : List D} (h : tupX e = some ds) : ∃ p, e = ⟨p, .tuple ds⟩ := by
  unfold tupX at h
  split at h
  · cases h; exact ⟨_, rfl⟩
  · cases h
theorem st_extT {i : Nat} {x m : Str} {p ap cp pos : Pos} {e : Expr} {c : E} (h : nameB X.env.scope X.N i x = true) (hm : m = Str.ofString "extend") (hl : (ap.endLine == cp.line) = true) (h1 : PE X e (tE Φ X W c)) (hs : starEach [e] X.env = [(false, eval e X.env)]) :
    PS X (.Expr (.Call (.Attribute (.Name x p) m ap) [e] [] cp) pos) (tS Φ X W io (.extT i c)) := by
  subst hm
  refine PS.imp (ps_expr (pe_bm PySem.F.plainAttrs_list PySem.F.slot_list_extend PySem.F.type_list_extend mt_extT (pe_nm h) (pa_cons h1 pa_nil hs) (hline := hl) (hs := hs) (hfew := by rw [hs]; rfl))) fun D σ H _ ⟨F, ρ, f, k, r, xo, w, K⟩ => ?_
  simp only [wpS] at w
  obtain ⟨hb, w⟩ := w
  obtain ⟨p0, xs0, hb⟩ := ownB_at hb
  obtain ⟨a0, av0, g0, k1, k2, _⟩ := r.own hb
  refine ⟨_, k1, tyL k2, F, ρ, f, _, _, r, xo.x, w, fun v F1 H1 e1 ρ1 f1 g1 fin o q => ?_⟩
  obtain ⟨p, xs, he, hf, q⟩ := onOwn_some q
  subst hf
  obtain ⟨ys, hys, hz, q2⟩ := onO_some q
  obtain ⟨q0, rfl⟩ := tupX_some hys
  obtain ⟨b, zs, rfl, hb2, hd2⟩ := o.tup
  obtain ⟨a, av, g, h1, h2, h3, ng, mg, upd'⟩ := fin.rep.own2 he
  have ea : a0 = a := by have := k1.symm.trans h1; simpa using this
  subst ea
  have h3 := (OwA_sh.mp h3).2
  obtain ⟨f', s1, c, r'⟩ := upd' (xs ++ ys) (av ++ zs) [] [] (OwA_sh.mpr ⟨rfl, dvA_append h3 hd2⟩) (by simp) (by simp) (by simp)
  refine ⟨a0, b, av, zs, rfl, rfl, h2, hb2, by rw [h3.length, hd2.length]; exact hz, K.nx F1 _ σ _ f' r' ⟨fin.chg.trans c fin.sub', fun x hx => ?_⟩ .refl q2⟩
  rcases s1 x hx with z | z
  · exact fin.sub' x z
  · simp at z
theorem st_rvs {i : Nat} {x m : Str} {p ap cp pos : Pos} (h : nameB X.env.scope X.N i x = true) (hm : m = Str.ofString "reverse") (hl : (ap.endLine == cp.line) = true) :
    PS X (.Expr (.Call (.Attribute (.Name x p) m ap) [] [] cp) pos) (tS Φ X W io (.rvs i)) := by
  subst hm
  refine PS.imp (ps_expr (pe_bm0 PySem.F.plainAttrs_list PySem.F.slot_list_reverse PySem.F.type_list_reverse mt_reverse (pe_nm h) (hline := hl))) fun D σ H _ ⟨F, ρ, f, k, r, xo, w, K⟩ => ?_
  simp only [wpS] at w
  obtain ⟨p, xs, he, q⟩ := onOwn_some w
  obtain ⟨a, av, g, h1, h2, h3, ng, mg, upd'⟩ := r.own2 he
  obtain ⟨g', k1, k2⟩ := OwA.reverse h3
  obtain ⟨f', s1, c, r'⟩ := upd' _ _ g' [] k1 (k2.nodup_iff.mpr ng) (fun x hx => .inl (k2.mem_iff.mp hx)) (by simp)
  refine ⟨_, h1, tyL h2, a, av, rfl, rfl, h2, K.nx F _ σ _ f' r' ⟨c, fun x hx => ?_⟩ .refl q⟩
  rcases s1 x hx with z | z
  · exact .inl z
  · simp at z
theorem st_clr {i : Nat} {x m : Str} {p ap cp pos : Pos} (h : nameB X.env.scope X.N i x = true) (hm : m = Str.ofString "clear") (hl : (ap.endLine == cp.line) = true) :
    PS X (.Expr (.Call (.Attribute (.Name x p) m ap) [] [] cp) pos) (tS Φ X W io (.clr i)) := by
  subst hm
  refine PS.imp (ps_expr (pe_bm0 PySem.F.plainAttrs_list PySem.F.slot_list_clear PySem.F.type_list_clear mt_clear (pe_nm h) (hline := hl))) fun D σ H _ ⟨F, ρ, f, k, r, xo, w, K⟩ => ?_
  simp only [wpS] at w
  obtain ⟨p, xs, he, q⟩ := onOwn_some w
  obtain ⟨a, av, g, h1, h2, h3, ng, mg, upd'⟩ := r.own2 he
  obtain ⟨f', s1, c, r'⟩ := upd' [] [] [] [] (OwA_nil.mpr ⟨rfl, rfl⟩) (by simp) (by simp) (by simp)
  refine ⟨_, h1, tyL h2, a, av, rfl, rfl, h2, K.nx F _ σ _ f' r' ⟨c, fun x hx => ?_⟩ .refl q⟩
  rcases s1 x hx with z | z
  · exact .inl z
  · simp at z
theorem st_setix {i : Nat} {x : Str} {p sp pos : Pos} {kx v : Expr} {a e : E} (h : nameB X.env.scope X.N i x = true) (ha : PE X kx (tE Φ X W a)) (he : PE X v (tE Φ X W e)) (hk : notSl kx = true) (hv : isComp2 v = false) :
    PS X (.Assign [.Subscript (.Name x p) kx sp] v pos) (tS Φ X W io (.setix i a e)) := by
  have hs : swapsWithSole [.Subscript (.Name x p) kx sp] v pos.line X.env = pure false := by
    cases v <;> first | rfl | simp [isComp2] at hv
  have hw : swappedStores [.Subscript (.Name x p) kx sp] v X.env = pure none := by
    cases v <;> rfl
  have hA : ∀ v, assign (.Subscript (.Name x p) kx sp) X.env v = (do
      let ov ← holding [v] (eval (.Name x p) X.env)
      let iv ← holding [v, ov] (eval kx X.env)
      standAt sp
      holding [v, ov, iv] (setItem ov iv v)
      release [v, ov, iv] []) := by
    intro v
    cases kx <;> first | rfl | simp [notSl] at hk
  refine PS.imp (ps_asg he (pg_sub (pe_nm h) ha set_list hA) hs hw) fun D σ H _ ⟨F, ρ, f, k, r, xo, w, K⟩ => ?_
  simp only [wpS] at w
  refine ⟨F, ρ, f, _, _, r, xo.x, w, fun v F1 H1 e1 ρ1 f1 g1 fin o q => ?_⟩
  obtain ⟨hb, q⟩ := q
  obtain ⟨p0, xs0, hb⟩ := ownB_at hb
  obtain ⟨a0, av0, g0, k1, k2, _⟩ := fin.rep.own hb
  refine ⟨_, k1, F1, ρ1, f1, _, _, fin.rep, xo.x.fin fin, q, fun u F2 H2 e2 ρ2 f2 g2 fin2 o2 q2 => ?_⟩
  obtain ⟨p, xs, he, q2⟩ := onOwn_some q2
  obtain ⟨j, hj, n, hn, hf, q2⟩ := isInt_some q2
  have o' : Ow X.K F2 H2 e1.d e1.p v g1 := Ow.chg fin2.chg fin.rep.off fin.rep.lst _ _ _ _ fin.apart o
  have ft := fin.trans fin2
  obtain ⟨b, av, g, h1, h2, h3, ng, mg, upd'⟩ := fin2.rep.own2 he
  have ea : a0 = b := by have := k1.symm.trans h1; simpa using this
  subst ea
  obtain ⟨gv, ov, sv, nv⟩ := fits_ow hf o'
  have n1 : g1.Nodup := (List.nodup_append.mp fin.nd).1
  have ap : ∀ x ∈ g1, x ∉ f2 := fun x hx => ft.apart x (List.mem_append_left _ hx)
  obtain ⟨g', j1, j2, j3⟩ := OwA.set (n := n) h3 ov ng (nv n1) fun x hx z => ap x (sv x hx) (mg x z)
  obtain ⟨f', s1, c, r'⟩ := upd' _ _ g' gv j1 j2 j3 (fun x hx => ⟨ap x (sv x hx), ft.off x (List.mem_append_left _ (sv x hx)), fun z => by
      obtain ⟨xs, e⟩ := ft.lst x (List.mem_append_left _ (sv x hx))
      rw [e] at z; cases z⟩)
  refine ⟨a0, av, j, n, rfl, int_of o2 hj, h2, by rw [h3.length]; exact hn, K.nx F2 _ σ _ f' r' ⟨ft.chg.trans c ft.sub', fun x hx => ?_⟩ .refl q2⟩
  rcases s1 x hx with z | z
  · exact ft.sub' x z
  · exact ft.sub x (List.mem_append_left _ (List.mem_append_left _ (sv x z)))
/-! ### name op= e -/
def AugOk (X : Cx) (op : Operator) (p : Prim) : Prop :=
  ∃ r, OpR X (inplaceOp op) r ∧ ∀ (F : Addr → Prop) (H : Hp) (e1 e2 : Ety) (v1 v2 : V) (g1 g2 : List Addr) (Q : Ety → Prop), isScal e1.d = true → Ow X.K F H e1.d e1.p v1 g1 → Ow X.K F H e2.d e2.p v2 g2 → wpP p [e1, e2] Q → r v1 v2 H (Res X.K F H Q)
theorem iop_fdivW : OpR X (inplaceOp .FloorDiv) (rI CDivW fun i j => .int (i / j)) := opI fun i j _ _ _ _ _ hc q => by
  have h1 : (0 : Int) < j := hc.1
  exact ifloordiv_int (by omega) (by rw [Int.fdiv_eq_ediv_of_nonneg i (by omega)]; exact q) (.inl (PyProof.noPylong_of_log2 hc.2))
theorem iop_mulW : OpR X (inplaceOp .Mult) (rI CMulW fun i j => .int (i * j)) := opI fun _ _ _ _ _ _ _ hc q => imul_int q hc.ok
theorem aug_ok {op : Operator} {p : Prim} (h : augOp p = some op) : AugOk X op p := by
  cases p <;> simp only [augOp, Option.some.injEq, reduceCtorEq] at h <;> subst h
  · refine ⟨_, iop_add, fun F H e1 e2 v1 v2 g1 g2 Q hs o1 o2 q => ?_⟩
    obtain ⟨p1, d1⟩ := e1
    obtain ⟨p2, d2⟩ := e2
    unfold wpP pAdd at q
    simp only at q
    split at q
    · rename_i a b e
      simp only [List.cons.injEq, Ety.mk.injEq] at e
      obtain ⟨⟨_, rfl⟩, ⟨_, rfl⟩, _⟩ := e
      exact ⟨_, _, o1.int, o2.int, res_sh dv_int q⟩
    · rename_i e
      simp only [List.cons.injEq, Ety.mk.injEq] at e
      obtain ⟨⟨_, rfl⟩, _⟩ := e
      simp [isScal] at hs
    · rename_i e
      simp only [List.cons.injEq, Ety.mk.injEq] at e
      obtain ⟨⟨_, rfl⟩, _⟩ := e
      simp [isScal] at hs
    · exact q.elim
  · refine ⟨_, iop_sub, fun F H e1 e2 v1 v2 g1 g2 Q hs o1 o2 q => ?_⟩
    obtain ⟨p1, d1⟩ := e1
    obtain ⟨p2, d2⟩ := e2
    unfold wpP pSub at q
    simp only at q
    split at q
    · rename_i a b e
      simp only [List.cons.injEq, Ety.mk.injEq] at e
      obtain ⟨⟨_, rfl⟩, ⟨_, rfl⟩, _⟩ := e
      exact ⟨_, _, o1.int, o2.int, res_sh dv_int q⟩
    · exact q.elim
  · refine ⟨_, OpR.or iop_mul iop_mulW, fun F H e1 e2 v1 v2 g1 g2 Q hs o1 o2 q => ?_⟩
    obtain ⟨p1, d1⟩ := e1
    obtain ⟨p2, d2⟩ := e2
    unfold wpP pMul at q
    simp only at q
    split at q
    · rename_i a b e
      simp only [List.cons.injEq, Ety.mk.injEq] at e
      obtain ⟨⟨_, rfl⟩, ⟨_, rfl⟩, _⟩ := e
      rcases q with ⟨hc | hc, q⟩
      · exact .inl ⟨_, _, o1.int, o2.int, hc, res_sh dv_int q⟩
      · exact .inr ⟨_, _, o1.int, o2.int, hc, res_sh dv_int q⟩
    · rename_i e
      simp only [List.cons.injEq, Ety.mk.injEq] at e
      obtain ⟨⟨_, rfl⟩, _⟩ := e
      simp [isScal] at hs
    · rename_i e
      simp only [List.cons.injEq, Ety.mk.injEq] at e
      obtain ⟨⟨_, rfl⟩, _⟩ := e
      simp [isScal] at hs
    · exact q.elim
  · refine ⟨_, OpR.or iop_fdiv iop_fdivW, fun F H e1 e2 v1 v2 g1 g2 Q hs o1 o2 q => ?_⟩
    obtain ⟨p1, d1⟩ := e1
    obtain ⟨p2, d2⟩ := e2
    unfold wpP pFdiv at q
    simp only at q
    split at q
    · rename_i a b e
      simp only [List.cons.injEq, Ety.mk.injEq] at e
      obtain ⟨⟨_, rfl⟩, ⟨_, rfl⟩, _⟩ := e
      rcases q with ⟨hc | hc, q⟩
      · exact .inl ⟨_, _, o1.int, o2.int, hc, res_sh dv_int q⟩
      · exact .inr ⟨_, _, o1.int, o2.int, hc, res_sh dv_int q⟩
    · exact q.elim
theorem st_aug {i : Nat} {x : Str} {op : Operator} {o : Prim} {e : E} {v : Expr} {px pos : Pos} (G : GdS fs Φ X W) (hi : nmB X.N X.env.scope io i x = true) (ho : AugOk X op o) (h : PE X v (tE Φ X W e)) :
    PS X (.AugAssign (.Name x px) op v pos) (tS Φ X W io (.aug i o e)) := by
  obtain ⟨h1, h2, h3, _⟩ := nm_of hi
  obtain ⟨r0, hr0, hr⟩ := ho
  refine PS.imp (ps_aug G.nd h2 h3 h (opR_cl hr0) (.inl (G.fnt x))) fun D σ H hlen ⟨F, ρ, f, k, r, xo, w, K⟩ => ?_
  simp only [wpS] at w
  obtain ⟨y, hy, hs, w⟩ := onO_some w
  obtain ⟨u, gu, k1, k2⟩ := r.get hy
  have k2 := k2.scal hs
  refine ⟨u, k1, F, ρ, f, _, _, r, xo.x, w, fun v2 F1 H1 e1 ρ1 f1 g1 fin ow q => ?_⟩
  refine ⟨_, hr F1 H1 (sh y.d) e1 u v2 [] g1 _ hs (Ow_sh.mpr ⟨rfl, Dv_scal hs k2⟩) ow q, fun z H' hz => ?_⟩
  obtain ⟨e2, g2, fin2, o2, q2⟩ := fin.res hz
  obtain ⟨f3, r3, s3⟩ := put_ok fin2 (lt_of_N fin2.rep hlen h2) o2
  exact K.nx F1 H' _ _ f3 r3 s3 (Io.set h1) q2
/-! ### several names -/
theorem slots_lt {K : PySem.W.Frag} {F : Addr → Prop} {H : Hp} {σ : L2.St} {ρ : Rho} {f : List Addr} {N : List Str} {sc : Scope} {t : Tg} {tg : Expr} (r : Rep K F H σ ρ f) (hl : σ.length = N.length) (h : okT sc N t tg = true) : ∀ i ∈ t.slots, i < ρ.length := by
  have go : ∀ (is : List Nat) (ts : List Expr), okTs sc N is ts = true → ∀ i ∈ is, i < ρ.length := by
    intro is
    induction is with
    | nil => intro ts _ i hi; simp at hi
    | cons j is ih =>
      intro ts ht i hi
      cases ts with
      | nil => simp [okTs] at ht
      | cons t ts =>
        simp only [okTs, Bool.and_eq_true] at ht
        rcases List.mem_cons.mp hi with rfl | hi
        · obtain ⟨x, pos, _, hx, _⟩ := okT1_of ht.1
          exact lt_of_N r hl hx
        · exact ih ts ht.2 i hi
  cases t with
  | name i =>
    intro j hj
    have e : j = i := by simpa [Tg.slots] using hj
    subst e
    obtain ⟨x, pos, _, hx, _⟩ := okT1_of (show okT1 sc N j tg = true from h)
    exact lt_of_N r hl hx
  | tup is =>
    cases tg with
    | Tuple es k pos => exact go is es h
    | _ => simp [okT] at h
theorem io_bind {t : Tg} {σ σ' : L2.St} (hio : (t.slots.all fun i => !io.contains i) = true) (hw : ∀ vs, (∀ i ∈ t.slots, i ∈ vs) → wipe σ' vs = wipe σ vs) (hn : ∀ i, i ∉ t.slots → σ'[i]? = σ[i]?) : Io io σ σ' := by
  refine ⟨?_, fun j hj => hn j fun z => ?_⟩
  · have := congrArg List.length (hw t.slots fun _ h => h)
    rw [wipe_length, wipe_length] at this
    exact this
  · have := List.all_eq_true.mp hio j z
    simp only [Bool.not_eq_true', List.contains_eq_mem, decide_eq_false_iff_not] at this
    exact this hj
theorem pg_or {tg : Expr} {g1 g2 : TG} (h1 : PG X tg g1) (h2 : PG X tg g2) : PG X tg (fun v σ H Q => g1 v σ H Q ∨ g2 v σ H Q) :=
  ⟨fun pins s σ H v u Q I r q => q.elim (h1.run pins s σ H v u Q I r) (h2.run pins s σ H v u Q I r)⟩
theorem st_unp {is : List Nat} {ts : List Expr} {k0 : Nat} {e : E} {v : Expr} {pt pos : Pos} (G : GdS fs Φ X W) (hcl : fs.calm = true) (hio : (is.all fun i => !io.contains i) = true) (ht : okTs X.env.scope X.N is ts = true) (hv : isComp2 v = false) (hv2 : isTup v = false) (h : PE X v (tE Φ X W e)) :
    PS X (.Assign [.Tuple ts k0 pt] v pos) (tS Φ X W io (.unp is e)) := by
  have hs : swapsWithSole [.Tuple ts k0 pt] v pos.line X.env = pure false := by
    cases v <;> first | rfl | simp [isComp2] at hv
  have hw : swappedStores [.Tuple ts k0 pt] v X.env = pure none := by
    cases v <;> first | rfl | simp [isTup] at hv2
  have hg : PG X (.Tuple ts k0 pt) (gTg X.K (.tup is)) := pg_ok (sc := X.env.scope) (G.calm hcl) G.nd (fun x z => ⟨z, .inl (G.fnt x)⟩) ht
  have hgL : PG X (.Tuple ts k0 pt) (gTgL X.K is) := pg_okL (sc := X.env.scope) (G.calm hcl) G.nd (fun x z => ⟨z, .inl (G.fnt x)⟩) ht
  refine PS.imp (ps_asg h (pg_or hg hgL) hs hw) fun D σ H hlen ⟨F, ρ, f, k, r, xo, w, K⟩ => ?_
  simp only [wpS] at w
  refine ⟨F, ρ, f, _, _, r, xo.x, w, fun u F1 H1 e1 ρ1 f1 g1 fin o q => ?_⟩
  obtain ⟨ds', hd, q1⟩ := onO_some q
  obtain ⟨ρ2, hb, q2⟩ := onO_some q1
  rcases tupOf_some hd with ⟨p1, rfl⟩ | ⟨p1, hel, rfl⟩
  case inr =>
    obtain ⟨a, xs, rfl, t1, t2⟩ := o.listEl hel
    refine .inr (bindL_ok fin.rep t1 t2 hb (slots_lt (t := .tup is) (tg := .Tuple ts k0 pt) (sc := X.env.scope) fin.rep hlen ht) fun σ' f' hf' r' hw hn => ?_)
    exact K.nx F1 H1 σ' _ f' r' ⟨fin.chg, fun a ha => fin.sub' a (hf' a ha)⟩ (io_bind (t := .tup is) hio hw hn) q2
  refine .inl ?_
  obtain ⟨a, xs, rfl, t1, t2⟩ := o.tup
  have dv : Dv X.K F1 H1 (.tuple ds') (.ref a) := by
    simp only [Dv]
    exact ⟨a, xs, rfl, t1, t2⟩
  refine bind_ok (t := .tup is) fin.rep dv hb (slots_lt (t := .tup is) (tg := .Tuple ts k0 pt) (sc := X.env.scope) fin.rep hlen ht) fun σ' f' hf' r' hw hn => ?_
  exact K.nx F1 H1 σ' _ f' r' ⟨fin.chg, fun a ha => fin.sub' a (hf' a ha)⟩ (io_bind (t := .tup is) hio hw hn) q2
theorem par_stores {env : Env} {x y : Str} {px py pt pt2 : Pos} {kt k2 : Nat} {u v : Expr} (hk : env.scope.kind = .function) (hx : env.scope.names.lookup x = some .local) (hy : env.scope.names.lookup y = some .local) (hxy : x ≠ y) (hl : (py.line == px.line) = true)
    (hu : notStar u = true) (hv : notStar v = true) (h1 : [u, v].all (foldedForSure 8) = false) (h2 : [u, v].all (constantsAlone 8) = false) :
    swappedStores [.Tuple [.Name x px, .Name y py] kt pt] (.Tuple [u, v] k2 pt2) env = pure (some [x, y]) := by
  have hb : env.blockKind = .function := by unfold Env.blockKind; rw [hk]; rfl
  unfold swappedStores
  simp only [hb, Env.kindOf, Expr.pos]
  have hl' : py.line = px.line := by simpa using hl
  have hxy' : ¬ y = x := fun e => hxy e.symm
  have he : ([x, y] : List Str).eraseDups = [x, y] := by
    rw [List.eraseDups_cons]
    simp [hxy', List.eraseDups_cons]
  simp [hx, hy, hl', h1, h2, List.filterMap_cons, he]
  rintro (h | h)
  · cases u <;> first | exact Bool.noConfusion (show false = true from h) | exact Bool.noConfusion (show false = true from hu)
  · cases v <;> first | exact Bool.noConfusion (show false = true from h) | exact Bool.noConfusion (show false = true from hv)
/-! ### loops -/
def bodyF (Φ : String → Spec) (t : Tg) (b : Ss) (d : D) (r : Rho) (k' : Kt) : Prop := onO (t.bind d r) fun r1 => wpSs Φ b r1 k'
structure FInv (X : Cx) (Φ : String → Spec) (t : Tg) (b : Ss) (io : List Nat) (σ : L2.St) (ds : List D) (F1 : Addr → Prop) (H1 : Hp) (f1 : List Addr) (k : Kt) (i : Nat) (σx : L2.St) (F : Addr → Prop) (H : Hp) (ρ : Rho) (f : List Addr) : Prop where
  rep : Rep X.K F H σx ρ f
  re : Reach X.K F1 H1 f1 F H f
  keep : Keep X.K F1 H1 F H
  io : Io io σ σx
  go : wpFor (bodyF Φ t b) (ds.drop i) ρ k
theorem st_for {t : Tg} {it : I} {b : Ss} {tg iter : Expr} {body : List Stmt} {pos : Pos} (G : GdS fs Φ X W) (hcl : fs.calm = true) (hi : PI X tg iter (tIt Φ X W it)) (hs : ∀ x, foldedSetIterable iter X.env x = pure x) (ht : okT X.env.scope X.N t tg = true) (hio : (t.slots.all fun i => !io.contains i) = true)
    (hb : PSs X body (tSs Φ X W io b)) : PS X (.For tg iter body [] pos) (tS Φ X W io (.for_ t it b)) := by
  have hg : PG X tg (gTg X.K t) := pg_ok (sc := X.env.scope) (G.calm hcl) G.nd (fun x z => ⟨z, .inl (G.fnt x)⟩) ht
  refine PS.imp (ps_for G.po (G.calm hcl) hi hg hb hs) fun D σ H hlen ⟨F0, ρ0, f0, k, r, xo, w, K⟩ => ?_
  simp only [wpS] at w
  refine ⟨F0, ρ0, f0, _, _, r, xo.x, w, fun J F1 H1 ds ρ1 f1 fin wd q => ?_⟩
  have xo1 := xo.move fin.reach .refl
  have K1 := K.move fin.reach .refl
  refine ⟨fun i m σx H => m = ds.length - i ∧ i ≤ ds.length ∧ ∃ F ρ f, FInv X Φ t b io σ ds F1 H1 f1 k i σx F H ρ f, ⟨ds.length, by simp, Nat.zero_le _, F1, ρ1, f1, fin.rep, .refl, .refl, .refl, q⟩, ?_⟩
  rintro i m σx H ⟨rfl, hil, F, ρ, f, L⟩
  have kd := wd F H L.keep i
  by_cases hlt : i < ds.length
  · refine .inr ?_
    obtain ⟨hgo, hy⟩ := kd.2 _ (List.getElem?_eq_getElem hlt)
    refine ⟨hgo, fun σ' H' => ∃ F' ρ' f', FInv X Φ t b io σ ds F1 H1 f1 k (i + 1) σ' F' H' ρ' f', fun σ' H' ⟨F', ρ', f', L'⟩ => ⟨ds.length - (i + 1), by omega, rfl, by omega, F', ρ', f', L'⟩, fun x H' hyl => ?_⟩
    obtain ⟨cy, dx⟩ := hy x H' hyl
    have g0 := L.go
    rw [List.drop_eq_getElem_cons hlt] at g0
    unfold wpFor bodyF at g0
    obtain ⟨ρb, hbd, gb⟩ := onO_some g0
    have rep' : Rep X.K F H' σx ρ f := L.rep.new cy fun a ha => cy.dom a (L.rep.there a ha)
    have re' : Reach X.K F1 H1 f1 F H' f := L.re.new cy
    have keep' : Keep X.K F1 H1 F H' := L.keep.trans (cy.keepD (by simp) (by simp))
    have lenx : σx.length = X.N.length := L.io.len.trans hlen
    refine bind_ok rep' dx hbd (slots_lt rep' lenx ht) fun σ2 f2 hf2 r2 w2 n2 => ?_
    have io2 : Io io σ σ2 := L.io.trans (io_bind hio w2 n2)
    have re2 := re'.cut hf2
    refine ⟨F, ρb, f2, { nx := fun ρ' => wpFor (bodyF Φ t b) (ds.drop (i + 1)) ρ' k, rt := k.rt, bk := k.nx, ct := fun ρ' => wpFor (bodyF Φ t b) (ds.drop (i + 1)) ρ' k, xe := k.xe }, r2, xo1.move re2 io2, gb, ?_, ?_, ?_, ?_⟩
    · intro F' H'' σ' ρ' f' r' s' c q'
      exact ⟨F', ρ', f', r', re2.trans s', keep'.trans (s'.chg.keepD r2.off r2.lst), io2.trans c, q'⟩
    · intro F' H'' σ' ρ' f' r' s' c q'
      exact K1.nx F' H'' σ' ρ' f' r' (re2.trans s') (io2.trans c) q'
    · intro F' H'' σ' ρ' f' r' s' c q'
      exact ⟨F', ρ', f', r', re2.trans s', keep'.trans (s'.chg.keepD r2.off r2.lst), io2.trans c, q'⟩
    · intro v F' H'' σ' ρ' f' g e s' c o q'
      exact K1.rt v F' H'' σ' ρ' f' g e (re2.finG s') (io2.trans c) o q'
  · refine .inl ⟨kd.1 (by omega), ?_⟩
    have g0 := L.go
    rw [List.drop_eq_nil_of_le (by omega)] at g0
    exact K1.nx F H σx ρ f L.rep L.re L.io g0
theorem st_whl {c : E} {b : Ss} {x : Expr} {body : List Stmt} {pos : Pos} (G : GdS fs Φ X W) (hc : PT X x (tTst Φ X W c)) (hb : PSs X body (tSs Φ X W io b)) : PS X (.While x body [] pos) (tS Φ X W io (.whl c b)) := by
  refine PS.imp (ps_while G.po hc hb) fun D σ H hlen ⟨F0, ρ0, f0, k, r, xo, w, K⟩ => ?_
  simp only [wpS] at w
  obtain ⟨n, w⟩ := w
  refine ⟨fun m σx H1 => ∃ F ρ f, Rep X.K F H1 σx ρ f ∧ Reach X.K F0 H f0 F H1 f ∧ Io io σ σx ∧ wpWhile (fun r Q => wpE Φ c r (fun v r1 => isBool v fun t => Q t r1) k.xe) (fun r k' => wpSs Φ b r k') m ρ k, ⟨n, F0, ρ0, f0, r, .refl, .refl, w⟩, ?_⟩
  rintro m σx H1 ⟨F, ρ, f, r1, re, i1, w1⟩
  cases m with
  | zero => exact w1.elim
  | succ m =>
    unfold wpWhile at w1
    refine ⟨F, ρ, f, fun (t : Bool) ρ1 => if t = true then wpSs Φ b ρ1 { nx := fun ρ' => wpWhile (fun r Q => wpE Φ c r (fun v r1 => isBool v fun t => Q t r1) k.xe) (fun r k' => wpSs Φ b r k') m ρ' k, rt := k.rt, bk := k.nx, ct := fun ρ' => wpWhile (fun r Q => wpE Φ c r (fun v r1 => isBool v fun t => Q t r1) k.xe) (fun r k' => wpSs Φ b r k') m ρ' k, xe := k.xe } else k.nx ρ1, k.xe, r1, (xo.move re i1).x, w1, fun t F2 H2 ρ2 f2 fin q => ?_⟩
    have re2 : Reach X.K F0 H f0 F2 H2 f2 := re.trans fin.reach
    cases t with
    | false => exact K.nx F2 H2 σx ρ2 f2 fin.rep re2 i1 q
    | true =>
      refine ⟨fun σ' H' => ∃ F ρ f, Rep X.K F H' σ' ρ f ∧ Reach X.K F0 H f0 F H' f ∧ Io io σ σ' ∧ wpWhile (fun r Q => wpE Φ c r (fun v r1 => isBool v fun t => Q t r1) k.xe) (fun r k' => wpSs Φ b r k') m ρ k, fun σ' H' z => ⟨m, Nat.lt_succ_self m, z⟩, F2, ρ2, f2, { nx := fun ρ' => wpWhile (fun r Q => wpE Φ c r (fun v r1 => isBool v fun t => Q t r1) k.xe) (fun r k' => wpSs Φ b r k') m ρ' k, rt := k.rt, bk := k.nx, ct := fun ρ' => wpWhile (fun r Q => wpE Φ c r (fun v r1 => isBool v fun t => Q t r1) k.xe) (fun r k' => wpSs Φ b r k') m ρ' k, xe := k.xe }, fin.rep, xo.move re2 i1, q, ?_, ?_, ?_, ?_⟩
      · intro F' H'' σ' ρ' f' r' s' c' q'
        exact ⟨F', ρ', f', r', re2.trans s', i1.trans c', q'⟩
      · intro F' H'' σ' ρ' f' r' s' c' q'
        exact K.nx F' H'' σ' ρ' f' r' (re2.trans s') (i1.trans c') q'
      · intro F' H'' σ' ρ' f' r' s' c' q'
        exact ⟨F', ρ', f', r', re2.trans s', i1.trans c', q'⟩
      · intro v F' H'' σ' ρ' f' g e s' c' o q'
        exact K.rt v F' H'' σ' ρ' f' g e (re2.finG s') (i1.trans c') o q'
end
end MS
namespace MS
open PySem PySem.Spec PyProof.Rows L2
section
variable {fs : Fs} {Φ : String → Spec} {X : Cx} {W : WX} {io : List Nat}
theorem XOkS.weak {io' : List Nat} {F : Addr → Prop} {H : Hp} {σ : L2.St} {f : List Addr} {xe : XE} (s : ∀ i ∈ io, i ∈ io') (h : XOkS X W io F H σ f xe) : XOkS X W io' F H σ f xe :=
  fun x ρ' F' H' σ' f' cls d r a i e q => h x ρ' F' H' σ' f' cls d r a (i.weak s) e q
/-- a name's own list is lent to another name -/
theorem Rep.lend {K : PySem.W.Frag} {F : Addr → Prop} {H : Hp} {σ : L2.St} {ρ : Rho} {f : List Addr} {x s : Nat} {p : Perm} {ds : List D} {v : V} (r : Rep K F H σ ρ f) (h : ρ.at x = some ⟨.own p, .list ds⟩) (hv : σ[x]? = some (some v)) (hs : s < ρ.length) :
    ∃ f', (∀ a ∈ f', a ∈ f) ∧ Rep K F H (σ.set s (some v)) ((ρ.set x none).set s (some ⟨.own p, .list ds⟩)) f' := by
  obtain ⟨o, ga, f0, h1, pp, ⟨v', rfl, ow⟩, r0⟩ := r.out (at_some h)
  have e : v' = v := by rw [hv] at h1; exact (Option.some.inj (Option.some.inj h1)).symm
  subst e
  have nd : (ga ++ f0).Nodup := pp.nodup_iff.mp r.nd
  obtain ⟨f', s1, r'⟩ := r0.put (i := s) (e := ⟨.own p, .list ds⟩) (by rw [List.length_set]; exact hs) ow nd fun a ha => r.off a (pp.mem_iff.mpr (List.mem_append_left _ ha))
  exact ⟨f', fun a ha => pp.mem_iff.mpr (s1 a ha), r'⟩
theorem cut_hiV {xs : List V} {h : Int} (h0 : 0 ≤ h) : cutV xs none (some h) = xs.take h.toNat := by
  have e : HT.sIx xs.length xs.length (some h) = min h.toNat xs.length := by unfold HT.sIx; simp only; rw [if_neg (by omega)]
  rw [cutV_eq]
  unfold cutD
  rw [e, HT.sIx_none, List.drop_zero, Nat.sub_zero]
  rw [List.take_eq_take_iff]; omega
structure LInv (X : Cx) (Φ : String → Spec) (s : Nat) (b : Ss) (io L : List Nat) (σ : L2.St) (F1 : Addr → Prop) (H1 : Hp) (f1 : List Addr) (k : Kt) (i : Nat) (σx : L2.St) (F : Addr → Prop) (H : Hp) (ρ : Rho) (f : List Addr) : Prop where
  rep : Rep X.K F H σx ρ f
  re : Reach X.K F1 H1 f1 F H f
  keep : Keep X.K F1 H1 F H
  io : Io io σ σx
  nm : ∀ x ∈ L, σx[x]? = σ[x]?
  go : wpLend s (fun r k' => wpSs Φ b r k') (L.drop i) ρ k
theorem lend_loop {s i0 j0 : Nat} {b : Ss} {T : Addr} {vs : List V} {L : List Nat} {σ : L2.St} {F1 : Addr → Prop} {H1 : Hp} {f1 : List Addr} {ρ1 : Rho} {k : Kt} {D : Ends}
    (hlen : σ.length = X.N.length) (hs : s < X.N.length) (hio : io.contains s = false) (hsL : s ∉ L) (hL : ∀ x ∈ L, x ∈ [i0, j0]) (hv : vs.length = L.length) (hn : ∀ (i : Nat) (x : Nat), L[i]? = some x → ∃ v, vs[i]? = some v ∧ σ[x]? = some (some v))
    (r : Rep X.K F1 H1 σ ρ1 f1) (hT : SqT X.K H1 T vs) (xo1 : XOkS X W io F1 H1 σ f1 k.xe) (K1 : KOk X.K io F1 H1 σ f1 k D) (w : wpLend s (fun r k' => wpSs Φ b r k') L ρ1 k) :
    ∃ Wf : Nat → Nat → L2.St → Hp → Prop, (∃ m, Wf 0 m σ H1) ∧ ∀ i m σx H, Wf i m σx H →
      ((Itt X.K T).stop i H ∧ D.nx σx H) ∨ ((Itt X.K T).go i H ∧ ∃ N : L2.St → Hp → Prop, (∀ σ' H', N σ' H' → ∃ m', m' < m ∧ Wf (i + 1) m' σ' H') ∧ ∀ y H', (Itt X.K T).yld i H y H' → gName s y σx H' fun σ2 H2 => tSs Φ X W (s :: i0 :: j0 :: io) b { D with nx := N, ct := N, bk := D.nx } σ2 H2) := by
  refine ⟨fun i m σx H => m = L.length - i ∧ i ≤ L.length ∧ ∃ F ρ f, LInv X Φ s b io L σ F1 H1 f1 k i σx F H ρ f, ⟨L.length, by simp, Nat.zero_le _, F1, ρ1, f1, r, .refl, .refl, .refl, fun _ _ => rfl, w⟩, ?_⟩
  rintro i m σx H ⟨rfl, hil, F, ρ, f, I⟩
  have hT' := I.keep.tup _ _ hT
  by_cases hlt : i < L.length
  · obtain ⟨x, hx⟩ : ∃ x, L[i]? = some x := ⟨_, List.getElem?_eq_getElem hlt⟩
    have hxL : x ∈ L := List.mem_of_getElem? hx
    obtain ⟨v, hvi, hvx⟩ := hn i x hx
    have hxs : x ≠ s := fun e => hsL (e ▸ hxL)
    refine .inr ⟨⟨vs, v, hT', hvi⟩, fun σ' H' => ∃ F' ρ' f', LInv X Φ s b io L σ F1 H1 f1 k (i + 1) σ' F' H' ρ' f', fun σ' H' ⟨F', ρ', f', L'⟩ => ⟨L.length - (i + 1), by omega, rfl, by omega, F', ρ', f', L'⟩, fun y H' hy => ?_⟩
    obtain ⟨rfl, hy⟩ := hy
    have ey : v = y := by have := hy vs hT'; rw [hvi] at this; exact Option.some.inj this
    subst ey
    have g0 := I.go
    rw [List.drop_eq_getElem_cons hlt] at g0
    have ex : L[i] = x := by rw [List.getElem?_eq_getElem hlt] at hx; exact Option.some.inj hx
    rw [ex] at g0
    unfold wpLend at g0
    obtain ⟨p, ds, hown, gb⟩ := onOwn_some g0
    have lenx : σx.length = X.N.length := I.io.len.trans hlen
    have lenr : ρ.length = X.N.length := I.rep.sl.length.symm.trans lenx |> fun e => by first | exact e | omega
    have hvx' : σx[x]? = some (some v) := (I.nm x hxL).trans hvx
    obtain ⟨f2, hf2, r2⟩ := I.rep.lend (s := s) hown hvx' (by omega)
    have io2 : Io io σ (σx.set s (some v)) := I.io.trans (Io.set hio)
    have re2 := I.re.cut hf2
    have lens : s < σx.length := by omega
    have svs : (σx.set s (some v))[s]? = some (some v) := List.getElem?_set_self lens
    have svx : (σx.set s (some v))[x]? = some (some v) := by rw [List.getElem?_set_ne (fun e => hxs e.symm)]; exact hvx'
    refine ⟨F, _, f2, { nx := fun ρ' => onOwn ρ' s fun p' ds' => wpLend s (fun r k' => wpSs Φ b r k') (L.drop (i + 1)) ((ρ'.set s none).set x (some ⟨.own p', .list ds'⟩)) k, rt := fun _ _ => False, bk := fun _ => False, ct := fun _ => False, xe := k.xe }, r2, (xo1.move re2 io2).weak (fun a ha => by simp [ha]), gb, ?_, ?_, ?_, ?_⟩
    · intro F' H'' σ' ρ' f' r' s' c q'
      obtain ⟨p', ds', hown', q''⟩ := onOwn_some q'
      have e1 : σ'[s]? = some (some v) := (c.eq s (by simp)).trans svs
      have e2 : σ'[x]? = some (some v) := (c.eq x (by have := hL x hxL; simp at this ⊢; rcases this with z | z <;> simp [z])).trans svx
      have lenr' : x < ρ'.length := by
        have h1 := r'.sl.length
        have h2 := c.len
        rw [List.length_set] at h2
        have h3 := (List.getElem?_eq_some_iff.mp e2).1
        omega
      obtain ⟨f3, hf3, r3⟩ := r'.lend (s := x) hown' e1 lenr'
      rw [set_self e2] at r3
      have c' : Io io σ σ' := io2.trans (c.weak fun a ha => by simp [ha])
      refine ⟨F', _, f3, r3, (re2.trans s').cut hf3, I.keep.trans (s'.chg.keepD r2.off r2.lst), c', fun z hz => ?_, q''⟩
      have hz1 := hL z hz
      have hzs : z ≠ s := fun e => hsL (e ▸ hz)
      rw [c.eq z (by simp at hz1 ⊢; rcases hz1 with y | y <;> simp [y]), List.getElem?_set_ne (fun e => hzs e.symm)]
      exact I.nm z hz
    · intro F' H'' σ' ρ' f' r' s' c q'
      exact q'.elim
    · intro F' H'' σ' ρ' f' r' s' c q'
      exact q'.elim
    · intro v F' H'' σ' ρ' f' g e s' c o q'
      exact q'.elim
  · refine .inl ⟨⟨vs, hT', by omega⟩, ?_⟩
    have g0 := I.go
    rw [List.drop_eq_nil_of_le (by omega)] at g0
    exact K1.nx F H σx ρ f I.rep I.re I.io g0
theorem st_lend {s i j : Nat} {e : E} {b : Ss} {tg u : Expr} {x y : Str} {px py pt ps p2 pos : Pos} {k0 : Nat} {body : List Stmt} (G : GdS fs Φ X W) (hcl : fs.calm = true) (hx : nameB X.env.scope X.N i x = true) (hy : nameB X.env.scope X.N j y = true) (ht : okT X.env.scope X.N (.name s) tg = true)
    (hio : io.contains s = false) (hij : i ≠ j) (hsi : s ≠ i) (hsj : s ≠ j) (he : PE X u (tE Φ X W e)) (hb : PSs X body (tSs Φ X W (s :: i :: j :: io) b)) :
    PS X (.For tg (.Subscript (.Tuple [.Name x px, .Name y py] k0 pt) (.Slice none (some u) none p2) ps) body [] pos) (tS Φ X W io (.forA s i j e b)) := by
  have hg : PG X tg (gTg X.K (.name s)) := pg_ok (sc := X.env.scope) (G.calm hcl) G.nd (fun x z => ⟨z, .inl (G.fnt x)⟩) ht
  refine PS.imp (ps_for G.po (G.calm hcl) (pi_tup (pe_slice sl_tupA (pe_tup (pa_cons (pe_nm hx) (pa_cons (pe_nm hy) pa_nil rfl) rfl)) po_none (po_some he))) hg hb (fun _ => rfl)) fun D σ H hlen ⟨F, ρ, f, k, r, xo, w, K⟩ => ?_
  simp only [wpS] at w
  obtain ⟨oi, oj, w⟩ := w
  obtain ⟨p0, xs0, h1⟩ := ownB_at oi
  obtain ⟨p1, xs1, h2⟩ := ownB_at oj
  obtain ⟨a0, av0, g0, k1, _⟩ := r.own h1
  obtain ⟨b0, bv0, g1, k2, _⟩ := r.own h2
  refine ⟨_, k1, _, k2, (show 2 ≤ sizeLine by unfold sizeLine; decide), fun p hp => ?_⟩
  have c1 : Chg F H F (upd H p (.tup [.ref a0, .ref b0])) [] := chg_new hp
  have r1 : Rep X.K F (upd H p (.tup [.ref a0, .ref b0])) σ ρ f := r.new c1 fun a ha => c1.dom a (r.there a ha)
  have re1 : Reach X.K F H f F (upd H p (.tup [.ref a0, .ref b0])) f := ⟨c1.weak (by simp), fun _ h => .inl h⟩
  have xo1 := xo.move re1 (Io.refl (σ := σ))
  refine ⟨F, ρ, f, _, _, r1, xo1.x, w, fun v F1 H1 e1 ρ1 f1 g1 fin o q => ?_⟩
  obtain ⟨n, hn, n0, q⟩ := isInt_some q
  have re2 := re1.trans fin.reach
  have hT1 : SqT X.K H1 p [.ref a0, .ref b0] := (fin.chg.keepD r1.off r1.lst).tup _ _ (.of upd_same)
  have hs : s < X.N.length := by
    obtain ⟨z, pz, _, hz, _⟩ := okT1_of (show okT1 X.env.scope X.N s tg = true from ht)
    exact (List.getElem?_eq_some_iff.mp hz).1
  have ecut : cutV [V.ref a0, V.ref b0] none (some n) = [V.ref a0, V.ref b0].take n.toNat := cut_hiV n0
  have hmem : ∀ x ∈ [i, j].take n.toNat, x ∈ [i, j] := fun x hx => List.mem_of_mem_take hx
  have hnm : ∀ (m x : Nat), ([i, j].take n.toNat)[m]? = some x → ∃ v, ([V.ref a0, V.ref b0].take n.toNat)[m]? = some v ∧ σ[x]? = some (some v) := fun m x hm => by
    rw [List.getElem?_take] at hm ⊢
    split at hm
    · rename_i hlt
      match m, hm with
      | 0, hm => simp at hm; subst hm; exact ⟨_, by rw [if_pos hlt]; rfl, k1⟩
      | 1, hm => simp at hm; subst hm; exact ⟨_, by rw [if_pos hlt]; rfl, k2⟩
      | m + 2, hm => simp at hm
    · cases hm
  have hsL : s ∉ [i, j].take n.toNat := fun z => by
    have := hmem s z
    simp at this
    rcases this with e | e
    · exact hsi e
    · exact hsj e
  have done : ∀ (T : Addr) (H2 : Hp), Rep X.K F1 H2 σ ρ1 f1 → Reach X.K F H f F1 H2 f1 → SqT X.K H2 T ([V.ref a0, V.ref b0].take n.toNat) → ∃ Wf : Nat → Nat → L2.St → Hp → Prop, (∃ m, Wf 0 m σ H2) ∧ ∀ i' m σx H, Wf i' m σx H →
      ((Itt X.K T).stop i' H ∧ D.nx σx H) ∨ ((Itt X.K T).go i' H ∧ ∃ N : L2.St → Hp → Prop, (∀ σ' H', N σ' H' → ∃ m', m' < m ∧ Wf (i' + 1) m' σ' H') ∧ ∀ y H', (Itt X.K T).yld i' H y H' → gName s y σx H' fun σ2 H2 => tSs Φ X W (s :: i :: j :: io) b { D with nx := N, ct := N, bk := D.nx } σ2 H2) := fun T H2 r2 re hT =>
    lend_loop (i0 := i) (j0 := j) hlen hs hio hsL hmem (by simp) hnm r2 hT (xo.move re .refl) (K.move re .refl) q
  refine ⟨n, int_of o hn, p, _, rfl, hT1, fun hw => ?_, fun hw p2 hp2 => ?_⟩
  · have e2 : [V.ref a0, V.ref b0].take n.toNat = [V.ref a0, V.ref b0] := by
      rw [← ecut, cutV_eq]
      unfold cutD
      rw [hw.1, hw.2]
      rfl
    exact ⟨p, rfl, ⟨_, hT1⟩, done p H1 fin.rep re2 (by rw [e2]; exact hT1)⟩
  · have c2 : Chg F1 H1 F1 (upd H1 p2 (.tup (cutV [V.ref a0, V.ref b0] none (some n)))) [] := chg_new hp2
    have r3 := fin.rep.new c2 fun a ha => c2.dom a (fin.rep.there a ha)
    refine ⟨p2, rfl, ⟨_, .of upd_same⟩, done p2 _ r3 (re2.new c2) (by rw [← ecut]; exact .of upd_same)⟩
end
end MS
namespace MS
open PySem PySem.Spec PyProof.Rows L2
section
variable {fs : Fs} {Φ : String → Spec} {X : Cx} {W : WX} {io : List Nat}
theorem upd_upd {H : Hp} {a : Addr} {u v : HO} : upd (upd H a u) a v = upd H a v := by
  funext b
  by_cases h : b = a
  · rw [h, upd_same, upd_same]
  · rw [upd_ne h, upd_ne h, upd_ne h]
/-- found[a][b], found[a][c] = found[a][c], found[a][b] -/
theorem st_swp1 {i : Nat} {a b c : A} {x : Str} {q1 q2 q3 q4 : Expr} {p1 p2 p3 p4 p5 p6 p7 p8 p9 pa pb pc pt pv pos : Pos} {k0 k00 : Nat} {e1 e2 e3 e4 : Expr}
    (hcl : X.calm = true) (h : nameB X.env.scope X.N i x = true) (h1 : okA X.env.scope X.N a e1 = true) (h2 : okA X.env.scope X.N a e2 = true) (h3 : okA X.env.scope X.N a e3 = true) (h4 : okA X.env.scope X.N a e4 = true)
    (hb1 : okA X.env.scope X.N b q1 = true) (hc1 : okA X.env.scope X.N c q2 = true) (hc2 : okA X.env.scope X.N c q3 = true) (hb2 : okA X.env.scope X.N b q4 = true)
    (hw : swappedStores [.Tuple [.Subscript (.Subscript (.Name x p1) e1 p2) q1 p3, .Subscript (.Subscript (.Name x p4) e2 p5) q2 p6] k0 pt] (.Tuple [.Subscript (.Subscript (.Name x p7) e3 p8) q3 p9, .Subscript (.Subscript (.Name x pa) e4 pb) q4 pc] k00 pv) X.env = pure none) :
    PS X (.Assign [.Tuple [.Subscript (.Subscript (.Name x p1) e1 p2) q1 p3, .Subscript (.Subscript (.Name x p4) e2 p5) q2 p6] k0 pt] (.Tuple [.Subscript (.Subscript (.Name x p7) e3 p8) q3 p9, .Subscript (.Subscript (.Name x pa) e4 pb) q4 pc] k00 pv) pos) (tS Φ X W io (.swp1 i a b c)) := by
  have hA : ∀ {e q : Expr} {p1 p2 p3 : Pos} {m : A} (hq : okA X.env.scope X.N m q = true) (v : Value), assign (.Subscript (.Subscript (.Name x p1) e p2) q p3) X.env v = (do
      let ov ← holding [v] (eval (.Subscript (.Name x p1) e p2) X.env)
      let iv ← holding [v, ov] (eval q X.env)
      standAt p3
      holding [v, ov, iv] (setItem ov iv v)
      release [v, ov, iv] []) := by
    intro e q p1 p2 p3 m hq v
    cases q <;> first | rfl | (cases m <;> simp [okA] at hq)
  have rd : ∀ {e q : Expr} {p1 p2 p3 : Pos} {m : A} (he : okA X.env.scope X.N a e = true) (hq : okA X.env.scope X.N m q = true), PE X (.Subscript (.Subscript (.Name x p1) e p2) q p3) _ := fun he hq => pe_ix ix_list (pe_ix ix_list (pe_nm h) (pe_A a he) (okA_plain he)) (pe_A _ hq) (okA_plain hq)
  refine PS.imp (ps_asg (pe_tup (pa_cons (rd h3 hc2) (pa_cons (rd h4 hb2) pa_nil rfl) rfl)) (pg_tup hcl (pgs_cons (pg_sub (pe_ix ix_list (pe_nm h) (pe_A a h1) (okA_plain h1)) (pe_A b hb1) set_list (hA hb1)) (pgs_cons (pg_sub (pe_ix ix_list (pe_nm h) (pe_A a h2) (okA_plain h2)) (pe_A c hc1) set_list (hA hc1)) pgs_nil))) rfl hw) fun D σ H _ ⟨F, ρ, f, k, r, xo, w, K⟩ => ?_
  simp only [wpS] at w
  obtain ⟨xs, j, n, ys, g1, g2, g3, g4, l, m, l2, m2, d, d2, g5, g6, g7, g8, g9, g10, q⟩ := onNst_some w
  obtain ⟨a0, av, b0, bv, k1, k2, k3, k4, k5, k6, _⟩ := r.nst g1 g4
  obtain ⟨v, hv, dv⟩ := k6.of_get g9
  obtain ⟨v2, hv2, dv2⟩ := k6.of_get g10
  have i1 := ev_rel r g2
  have i5 := ev_rel r g5
  have i7 := ev_rel r g7
  have t1 : atI av j = some (.ref b0) := atI_of (by rw [k3]; exact g3) k4
  have t2 : atI bv l = some v := atI_of (by rw [k6.length]; exact g6) hv
  have t3 : atI bv l2 = some v2 := atI_of (by rw [k6.length]; exact g8) hv2
  refine ⟨_, k1, j, i1, a0, av, j, .ref b0, rfl, rfl, .of k2, t1, l2, i7, b0, bv, l2, v2, rfl, rfl, .of k5, t3, _, k1, j, i1, a0, av, j, .ref b0, rfl, rfl, .of k2, t1, l, i5, b0, bv, l, v, rfl, rfl, .of k5, t2, (show 2 ≤ sizeLine by unfold sizeLine; decide), fun p hp => ?_⟩
  have c1 : Chg F H F (upd H p (.tup [v2, v])) [] := chg_new hp
  have r1 := r.new c1 fun z hz => c1.dom z (r.there z hz)
  obtain ⟨a1, av1, b1, bv1, n1, n2, n3, n4, n5, n6, n7⟩ := r1.nst g1 g4
  have ea : a1 = a0 := by rw [k1] at n1; simpa using n1.symm
  subst ea
  have na : a1 ≠ p := fun z => by rw [z, hp] at k2; cases k2
  have nb : b0 ≠ p := fun z => by rw [z, hp] at k5; cases k5
  have eav : av1 = av := by rw [upd_ne na, k2] at n2; simpa using n2.symm
  subst eav
  have eb : b1 = b0 := by rw [k4] at n4; simpa using n4.symm
  subst eb
  have ebv : bv1 = bv := by rw [upd_ne nb, k5] at n5; simpa using n5.symm
  subst ebv
  have nab : a1 ≠ b1 := fun z => by
    rw [z, n5] at n2
    have e : bv1 = av1 := by simpa using n2
    subst e
    obtain ⟨o, ga, f0, hs, pp, ⟨v', rfl, ow⟩, r0⟩ := r1.out (at_some g1)
    obtain ⟨a9, av9, g9', e9, h9, rfl, h10, _⟩ := Ow_list.mp ow
    have e11 : a9 = a1 := by rw [k1] at hs; have := Option.some.inj (Option.some.inj hs); rw [e9] at this; simpa using this.symm
    subst e11
    have ndd := (List.nodup_append.mp (pp.nodup_iff.mp r1.nd)).1
    obtain ⟨b9, bv9, w1, w2, w3, _⟩ := OwA.nest h10 (List.nodup_cons.mp ndd).2 (fun x hx => r1.off x (pp.mem_iff.mpr (List.mem_append_left _ (by simp [hx])))) g4
    have e12 : av9 = bv1 := by rw [z, n5] at h9; simpa using h9.symm
    subst e12
    have e13 : b9 = b1 := by rw [n4] at w1; simpa using w1.symm
    subst e13
    rw [z] at ndd
    exact (List.nodup_cons.mp ndd).1 w2
  obtain ⟨v', hv', dv'⟩ := n6.of_get g9
  obtain ⟨v2', hv2', dv2'⟩ := n6.of_get g10
  have ev : v' = v := by rw [hv] at hv'; simpa using hv'.symm
  have ev2 : v2' = v2 := by rw [hv2] at hv2'; simpa using hv2'.symm
  subst ev ev2
  refine ⟨p, [v2', v'], rfl, .of upd_same, rfl, ?_⟩
  refine ⟨v2', [v'], rfl, ?_⟩
  refine ⟨_, k1, j, i1, a1, av1, j, .ref b1, rfl, rfl, .of n2, t1, l, i5, b1, bv1, l, m, rfl, rfl, n5, by rw [k6.length]; exact g6, ?_⟩
  refine ⟨v', [], rfl, ?_⟩
  refine ⟨_, k1, j, i1, a1, av1, j, .ref b1, rfl, rfl, .of (by rw [upd_ne nab]; exact n2), t1, l2, i7, b1, _, l2, m2, rfl, rfl, upd_same, by rw [List.length_set, k6.length]; exact g8, ?_⟩
  refine ⟨rfl, ?_⟩
  rw [upd_upd]
  obtain ⟨f', s1, c, r'⟩ := n7 ((ys.set m d2).set m2 d) ((bv1.set m v2').set m2 v') ((n6.set m dv2').set m2 dv')
  exact K.nx F _ σ _ f' r' ⟨(c1.weak (by simp)).trans c fun b hb => .inl hb, fun x hx => .inl (s1 x hx)⟩ .refl q
end
end MS
namespace MS
open PySem PySem.Spec PyProof.Rows L2
section
variable {fs : Fs} {Φ : String → Spec} {X : Cx} {W : WX} {io : List Nat} {z z2 : E} {zb : Ss}
theorem st_setd {i : Nat} {x : Str} {p sp pos : Pos} {kx v : Expr} {u e : E} (hu : X.A.units + 1 < cLine) (h : nameB X.env.scope X.N i x = true) (ha : PE X kx (tE Φ X W u)) (he : PE X v (tE Φ X W e)) (hk : notSl kx = true) (hv : isComp2 v = false) :
    PS X (.Assign [.Subscript (.Name x p) kx sp] v pos) (tS Φ X W io (.dst (.setd i) u e zb)) := by
  have hs : swapsWithSole [.Subscript (.Name x p) kx sp] v pos.line X.env = pure false := by
    cases v <;> first | rfl | simp [isComp2] at hv
  have hw : swappedStores [.Subscript (.Name x p) kx sp] v X.env = pure none := by
    cases v <;> rfl
  have hA : ∀ v, assign (.Subscript (.Name x p) kx sp) X.env v = (do
      let ov ← holding [v] (eval (.Name x p) X.env)
      let iv ← holding [v, ov] (eval kx X.env)
      standAt sp
      holding [v, ov, iv] (setItem ov iv v)
      release [v, ov, iv] []) := by
    intro v
    cases kx <;> first | rfl | simp [notSl] at hk
  refine PS.imp (ps_asg he (pg_sub (pe_nm h) ha (set_dict hu) hA) hs hw) fun D σ H _ ⟨F, ρ, f, k, r, xo, w, K⟩ => ?_
  simp only [wpS, dsW] at w
  refine ⟨F, ρ, f, _, _, r, xo.x, w, fun v F1 H1 e1 ρ1 f1 g1 fin o q => ?_⟩
  obtain ⟨hp, hk0, q1, q⟩ := q
  obtain ⟨p1, d1⟩ := e1
  have hp : p1 = .sh := hp
  subst hp
  obtain ⟨rfl, od⟩ := Ow_sh.mp o
  obtain ⟨a, qs, k1, k2, k3⟩ := fin.rep.dcr (.inl q1)
  refine ⟨_, k1, F1, ρ1, f1, _, _, fin.rep, xo.x.fin fin, q, fun u F2 H2 e2 ρ2 f2 g2 fin2 o2 q2 => ?_⟩
  obtain ⟨n, hn, hk, q3, hz, q⟩ := isInt_some q2
  obtain ⟨a2, qs2, m1, m2, m3, m4⟩ := fin2.rep.dci q3
  have ea : a2 = a := by rw [k1] at m1; simpa using m1.symm
  subst ea
  have eu := int_of o2 hn
  subst eu
  have od2 := Dv.chg fin2.chg fin.rep.off fin.rep.lst _ _ od
  obtain ⟨f', s1, c, r'⟩ := m4 (pI hk n d1) (pI qs2 n v) (m3.put od2)
  have ft := fin.trans fin2
  refine ⟨a2, _, rfl, .inl ⟨_, .inl n, m2, rfl, by rw [hiV, List.length_map, m3.length]; exact hz, rfl⟩, ?_⟩
  rw [putK_hi]
  exact K.nx F2 _ σ _ f' r' ⟨ft.chg.trans c ft.sub', fun x hx => ft.sub' x (s1 x hx)⟩ .refl q
theorem gI_put_ne {α : Type} {m n : Int} {d : α} (h : m ≠ n) : ∀ {hk : List (Int × α)}, gI (pI hk m d) n = gI hk n := by
  intro hk
  unfold pI
  by_cases e : (hk.any fun z => decide (z.1 = m)) = true
  · rw [if_pos e]
    clear e
    induction hk with
    | nil => rfl
    | cons q r ih =>
      rw [List.map_cons]
      by_cases e1 : q.1 = n
      · have e2 : ¬ q.1 = m := fun z => h (z.symm.trans e1)
        rw [if_neg e2, gI_pos e1, gI_pos e1]
      · by_cases e2 : q.1 = m
        · rw [if_pos e2, gI_neg (by exact e1), gI_neg e1]; exact ih
        · rw [if_neg e2, gI_neg e1, gI_neg e1]; exact ih
  · rw [if_neg e]
    clear e
    induction hk with
    | nil => rw [List.nil_append, gI_neg (by exact h)]
    | cons q r ih =>
      rw [List.cons_append]
      by_cases e1 : q.1 = n
      · rw [gI_pos e1, gI_pos e1]
      · rw [gI_neg e1, gI_neg e1]; exact ih
theorem pI_len {α : Type} {m : Int} {d x : α} {hk : List (Int × α)} (h : gI hk m = some x) : (pI hk m d).length = hk.length := by
  unfold pI
  rw [gI_any, h, if_pos (by rfl), List.length_map]
/-- d[a], d[b] = d[b], d[a] -/
theorem st_swpd {i : Nat} {a b : A} {x : Str} {q1 q2 q3 q4 : Expr} {p1 p3 p4 p6 p7 p9 pa pc pt pv pos : Pos} {k0 k00 : Nat} (hu : X.A.units + 1 < cLine)
    (hcl : X.calm = true) (h : nameB X.env.scope X.N i x = true) (ha1 : okA X.env.scope X.N a q1 = true) (hb1 : okA X.env.scope X.N b q2 = true) (hb2 : okA X.env.scope X.N b q3 = true) (ha2 : okA X.env.scope X.N a q4 = true)
    (hw : swappedStores [.Tuple [.Subscript (.Name x p1) q1 p3, .Subscript (.Name x p4) q2 p6] k0 pt] (.Tuple [.Subscript (.Name x p7) q3 p9, .Subscript (.Name x pa) q4 pc] k00 pv) X.env = pure none) :
    PS X (.Assign [.Tuple [.Subscript (.Name x p1) q1 p3, .Subscript (.Name x p4) q2 p6] k0 pt] (.Tuple [.Subscript (.Name x p7) q3 p9, .Subscript (.Name x pa) q4 pc] k00 pv) pos) (tS Φ X W io (.dst (.swpd i a b) z z2 zb)) := by
  have hA : ∀ {q : Expr} {p1 p3 : Pos} {m : A} (hq : okA X.env.scope X.N m q = true) (v : Value), assign (.Subscript (.Name x p1) q p3) X.env v = (do
      let ov ← holding [v] (eval (.Name x p1) X.env)
      let iv ← holding [v, ov] (eval q X.env)
      standAt p3
      holding [v, ov, iv] (setItem ov iv v)
      release [v, ov, iv] []) := by
    intro q p1 p3 m hq v
    cases q <;> first | rfl | (cases m <;> simp [okA] at hq)
  refine PS.imp (ps_asg (pe_tup (pa_cons (pe_dget hu (pe_nm h) (pe_A b hb2) (okA_plain hb2)) (pa_cons (pe_dget hu (pe_nm h) (pe_A a ha2) (okA_plain ha2)) pa_nil rfl) rfl)) (pg_tup hcl (pgs_cons (pg_sub (pe_nm h) (pe_A a ha1) (set_dict hu) (hA ha1)) (pgs_cons (pg_sub (pe_nm h) (pe_A b hb1) (set_dict hu) (hA hb1)) pgs_nil))) rfl hw) fun D σ H _ ⟨F, ρ, f, k, r, xo, w, K⟩ => ?_
  simp only [wpS, dsW] at w
  obtain ⟨hk, g1, m, n, d, e, g2, g3, g4, g5, hz, q⟩ := w
  obtain ⟨a0, qs, k1, k2, k3⟩ := r.dcr (.inl g1)
  obtain ⟨u, hu1, du⟩ := (k3.get (l := m)).2 d g4
  obtain ⟨v, hv1, dv⟩ := (k3.get (l := n)).2 e g5
  have im := ev_rel r g2
  have jn := ev_rel r g3
  refine ⟨_, k1, n, jn, a0, v, rfl, by rw [← hv1, ← valV_hi]; exact DGet.k (k := .inl n) k2, _, k1, m, im, a0, u, rfl, by rw [← hu1, ← valV_hi]; exact DGet.k (k := .inl m) k2, (show 2 ≤ sizeLine by unfold sizeLine; decide), fun p hp => ?_⟩
  have c1 : Chg F H F (upd H p (.tup [v, u])) [] := chg_new hp
  have r1 := r.new c1 fun z hz => c1.dom z (r.there z hz)
  obtain ⟨a1, qs1, n1, n2, n3, n4⟩ := r1.dci g1
  have ea : a1 = a0 := by rw [k1] at n1; simpa using n1.symm
  subst ea
  have na : a1 ≠ p := fun z => by rw [z, hp] at k2; cases k2
  have eq_ : hiV qs1 = hiV qs := by rw [upd_ne na, k2] at n2; simpa using n2.symm
  obtain ⟨u', hu2, du'⟩ := (n3.get (l := m)).2 d g4
  obtain ⟨v', hv2, dv'⟩ := (n3.get (l := n)).2 e g5
  have eu : u' = u := by
    have h1 : gI qs1 m = gI qs m := by rw [← valV_hi, ← valV_hi, eq_]
    rw [h1, hu1] at hu2; simpa using hu2.symm
  have ev : v' = v := by
    have h1 : gI qs1 n = gI qs n := by rw [← valV_hi, ← valV_hi, eq_]
    rw [h1, hv1] at hv2; simpa using hv2.symm
  subst eu ev
  have l1 : (hiV qs1).length < sizeLine := by rw [hiV, List.length_map, n3.length]; exact hz
  have l2 : (hiV (pI qs1 m v')).length < sizeLine := by rw [hiV, List.length_map, pI_len hu2, n3.length]; exact hz
  refine ⟨p, [v', u'], rfl, .of upd_same, rfl, ?_⟩
  refine ⟨v', [u'], rfl, _, k1, m, im, a1, _, rfl, .inl ⟨_, .inl m, n2, rfl, l1, rfl⟩, ?_⟩
  rw [putK_hi]
  refine ⟨u', [], rfl, _, k1, n, jn, a1, _, rfl, .inl ⟨_, .inl n, upd_same, rfl, l2, rfl⟩, ?_⟩
  rw [putK_hi, upd_upd]
  refine ⟨rfl, ?_⟩
  obtain ⟨f', s1, c, r'⟩ := n4 (pI (pI hk m e) n d) (pI (pI qs1 m v') n u') ((n3.put dv').put du')
  exact K.nx F _ σ _ f' r' ⟨(c1.weak (by simp)).trans c fun b hb => .inl hb, fun x hx => .inl (s1 x hx)⟩ .refl q
/-- d[a] = [], a new key of a dict of one's own lists -/
theorem st_setdO {i : Nat} {a : A} {x : Str} {p sp pl pos : Pos} {kx : Expr} (hu : X.A.units + 1 < cLine) (h : nameB X.env.scope X.N i x = true) (h1 : okA X.env.scope X.N a kx = true) :
    PS X (.Assign [.Subscript (.Name x p) kx sp] (.List [] pl) pos) (tS Φ X W io (.dst (.setdO i a) z z2 zb)) := by
  have hA : ∀ v, assign (.Subscript (.Name x p) kx sp) X.env v = (do
      let ov ← holding [v] (eval (.Name x p) X.env)
      let iv ← holding [v, ov] (eval kx X.env)
      standAt sp
      holding [v, ov, iv] (setItem ov iv v)
      release [v, ov, iv] []) := by
    intro v
    cases kx <;> first | rfl | (cases a <;> simp [okA] at h1)
  refine PS.imp (ps_asg (pe_lst pa_nil) (pg_sub (pe_nm h) (pe_A a h1) (set_dict hu) hA) rfl rfl) fun D σ H _ ⟨F, ρ, f, k, r, xo, w, K⟩ => ?_
  simp only [wpS, dsW] at w
  obtain ⟨hk, e1, n, e2, e3, hz, q⟩ := w
  obtain ⟨a0, qs, g, f0, k1, k2, k3, pp, r0⟩ := r.dco e1
  refine ⟨Nat.zero_le _, fun p hp => ?_⟩
  have na : a0 ≠ p := fun z => by rw [z, hp] at k2; cases k2
  have lq := k3.length
  have gn : gI qs n = none := by
    have := k3.get (l := n)
    rw [e3] at this
    cases e : gI qs n with
    | none => rfl
    | some v => rw [e] at this; cases this
  refine ⟨_, k1, n, ev_rel r e2, a0, _, rfl, .inl ⟨_, .inl n, by rw [upd_ne na]; exact k2, rfl, by rw [hiV, List.length_map, lq]; exact hz, rfl⟩, ?_⟩
  have hput : putK (hiV qs) (.inl n) (.ref p) = hiV (qs ++ [(n, .ref p)]) := by
    rw [putK_hi]
    unfold pI
    rw [gI_any, gn]
    rfl
  rw [hput]
  have nd := pp.nodup_iff.mp r.nd
  obtain ⟨n1, n2, n3⟩ := List.nodup_append.mp nd
  obtain ⟨na0, ng⟩ := List.nodup_cons.mp n1
  have mem : ∀ x ∈ a0 :: g, x ∈ f := fun x hx => pp.mem_iff.mpr (List.mem_append_left _ hx)
  have pf : p ∉ f := fun z => r.ne z hp
  have pF : ¬ F p := fun z => r.there p z hp
  have c : Chg F H F (upd (upd H p (.lst [])) a0 (.dK (hiV (qs ++ [(n, .ref p)])))) [a0] := ⟨fun _ h => h, fun _ h => .inl h, fun b o hb hn => by
    have nb : b ≠ a0 := by simpa using hn
    have np : b ≠ p := fun z => by rw [z, hp] at hb; cases hb
    rw [upd_ne nb, upd_ne np]; exact hb, fun b hb => by
    by_cases nb : b = a0
    · rw [nb, upd_same]; simp
    · rw [upd_ne nb]
      by_cases np : b = p
      · rw [np, upd_same]; simp
      · rw [upd_ne np]; exact hb⟩
  have offa : ∀ x ∈ [a0], ¬ F x := fun x hx => (show x = a0 by simpa using hx) ▸ r.off a0 (mem a0 (by simp))
  have lsta : ∀ x ∈ [a0], Mu H x := fun x hx => (show x = a0 by simpa using hx) ▸ ⟨.k _, k2⟩
  have nf0 : a0 ∉ f0 := fun z => n3 a0 (by simp) a0 z rfl
  have hi : i < ρ.length := (List.getElem?_eq_some_iff.mp (at_some e1)).1
  have r1 : Rep X.K F (upd (upd H p (.lst [])) a0 (.dK (hiV (qs ++ [(n, .ref p)])))) σ (ρ.set i none) f0 := ⟨r0.sl.chg c offa lsta fun x hx z => nf0 ((show x = a0 by simpa using z) ▸ hx), r0.nd, r0.off, fun x hx => c.dom x (r0.there x hx)⟩
  have op : Ow X.K F (upd (upd H p (.lst [])) a0 (.dK (hiV (qs ++ [(n, .ref p)])))) (.list []) (.own .sh) (.ref p) [p] := Ow_list.mpr ⟨p, [], [], rfl, by rw [upd_ne (Ne.symm na), upd_same], rfl, OwA_nil.mpr ⟨rfl, rfl⟩, trivial⟩
  have ow : Ow X.K F (upd (upd H p (.lst [])) a0 (.dK (hiV (qs ++ [(n, .ref p)])))) (dI (hk ++ [(n, .list [])])) (.own (.own .sh)) (.ref a0) (a0 :: (g ++ [p])) := ow_dO.mpr ⟨a0, _, _, rfl, rfl, upd_same, (k3.chg c offa lsta fun x hx z => na0 ((show x = a0 by simpa using z) ▸ hx)).snoc op⟩
  have nd2 : ((a0 :: (g ++ [p])) ++ f0).Nodup := by
    have e : ((a0 :: (g ++ [p])) ++ f0).Perm (p :: (a0 :: g ++ f0)) := by
      have : (a0 :: (g ++ [p])) ++ f0 = (a0 :: g) ++ p :: f0 := by simp
      rw [this]
      exact List.perm_middle
    exact e.nodup_iff.mpr (List.nodup_cons.mpr ⟨fun z => pf (pp.mem_iff.mpr z), nd⟩)
  have of2 : ∀ x ∈ a0 :: (g ++ [p]), ¬ F x := fun x hx => by
    simp only [List.mem_cons, List.mem_append, List.not_mem_nil, or_false] at hx
    rcases hx with z | z | z
    · exact r.off x (mem x (by simp [z]))
    · exact r.off x (mem x (by simp [z]))
    · exact z ▸ pF
  obtain ⟨f', p', r2⟩ := r1.inn (i := i) (o := some (.ref a0)) (e := some ⟨.own (.own .sh), dI (hk ++ [(n, .list [])])⟩) (g := a0 :: (g ++ [p])) (by simp [hi]) ⟨_, rfl, ow⟩ nd2 of2
  rw [set_idem, set_self k1] at r2
  refine K.nx F _ σ _ f' r2 ⟨c.weak fun x hx => (show x = a0 by simpa using hx) ▸ mem a0 (by simp), fun x hx => ?_⟩ .refl q
  have hx := p'.mem_iff.mp hx
  simp only [List.mem_append, List.mem_cons, List.not_mem_nil, or_false] at hx
  rcases hx with (z | z | z) | z
  · exact .inl (mem x (by simp [z]))
  · exact .inl (mem x (by simp [z]))
  · exact .inr (z ▸ hp)
  · exact .inl (pp.mem_iff.mpr (by simp [z]))
/-- d[a].append(e) -/
theorem st_appd {i : Nat} {x m : Str} {p p1 ap cp pos : Pos} {k1 v : Expr} {a e : A} (hu : X.A.units + 1 < cLine) (h : nameB X.env.scope X.N i x = true) (h1 : okA X.env.scope X.N a k1 = true) (h2 : okA X.env.scope X.N e v = true) (hm : m = Str.ofString "append") (hl : (ap.endLine == cp.line) = true) (hs : starEach [v] X.env = [(false, eval v X.env)]) :
    PS X (.Expr (.Call (.Attribute (.Subscript (.Name x p) k1 p1) m ap) [v] [] cp) pos) (tS Φ X W io (.dst (.appd i a e) z z2 zb)) := by
  subst hm
  refine PS.imp (ps_expr (pe_bm PySem.F.plainAttrs_list PySem.F.slot_list_append PySem.F.type_list_append mt_append (pe_dget hu (pe_nm h) (pe_A a h1) (okA_plain h1)) (pa_cons (pe_A e h2) pa_nil hs) (hline := hl) (hs := hs) (hfew := by rw [hs]; rfl))) fun D σ H _ ⟨F, ρ, f, k, r, xo, w, K⟩ => ?_
  simp only [wpS, dsW] at w
  obtain ⟨hk, e1, n, l, ys, e2, e4, e3, hz, q⟩ := w
  obtain ⟨a0, qs, g, f0, k1, k2, k3, pp, r0⟩ := r.dco e1
  have nd := pp.nodup_iff.mp r.nd
  obtain ⟨n1, n2, n3⟩ := List.nodup_append.mp nd
  obtain ⟨na0, ng⟩ := List.nodup_cons.mp n1
  have mem : ∀ x ∈ a0 :: g, x ∈ f := fun x hx => pp.mem_iff.mpr (List.mem_append_left _ hx)
  obtain ⟨b, bv, j1, j2, j3, j4, j5⟩ := k3.nest ng (fun x hx => r.off x (mem x (by simp [hx]))) e3
  refine ⟨_, k1, n, ev_rel r e2, a0, .ref b, rfl, by rw [← j1, ← valV_hi]; exact DGet.k (k := .inl n) k2, tyL j3, l, ev_rel r e4, b, bv, .int l, rfl, rfl, j3, by rw [j4.length]; exact hz, ?_⟩
  have hb : b ∈ f := mem b (by simp [j2])
  have c : Chg F H F (upd H b (.lst (bv ++ [.int l]))) [b] := chg_upd (by rw [j3]; simp)
  have offb : ∀ x ∈ [b], ¬ F x := fun x hx => (show x = b by simpa using hx) ▸ r.off b hb
  have lstb : ∀ x ∈ [b], Mu H x := fun x hx => (show x = b by simpa using hx) ▸ .of j3
  have nf0 : b ∉ f0 := fun z => n3 b (by simp [j2]) b z rfl
  have ab : a0 ≠ b := fun e => na0 (e ▸ j2)
  have hi : i < ρ.length := (List.getElem?_eq_some_iff.mp (at_some e1)).1
  have r1 : Rep X.K F (upd H b (.lst (bv ++ [.int l]))) σ (ρ.set i none) f0 := ⟨r0.sl.chg c offb lstb fun x hx z => nf0 ((show x = b by simpa using z) ▸ hx), r0.nd, r0.off, fun x hx => c.dom x (r0.there x hx)⟩
  have ow : Ow X.K F (upd H b (.lst (bv ++ [.int l]))) (dI (seI hk n (.list (ys ++ [.int l])))) (.own (.own .sh)) (.ref a0) (a0 :: g) := ow_dO.mpr ⟨a0, qs, g, rfl, rfl, by rw [upd_ne ab]; exact k2, j5 _ _ (dvA_append j4 (DvA_cons.mpr ⟨_, _, rfl, dv_int, DvA_nil.mpr rfl⟩))⟩
  obtain ⟨f', p', r2⟩ := r1.inn (i := i) (o := some (.ref a0)) (e := some ⟨.own (.own .sh), dI (seI hk n (.list (ys ++ [.int l])))⟩) (g := a0 :: g) (by simp [hi]) ⟨_, rfl, ow⟩ nd fun x hx => r.off x (mem x hx)
  rw [set_idem, set_self k1] at r2
  exact K.nx F _ σ _ f' r2 ⟨c.weak fun x hx => (show x = b by simpa using hx) ▸ hb, fun x hx => .inl (pp.mem_iff.mpr (p'.mem_iff.mp hx))⟩ .refl q
end
end MS
/-! x.insert(n, e); x[a:b] = e -/
namespace MS
open PySem L2
/-- x[a:b] = y, all four as they come -/
def tPutSl (tv to tl th : TE) : TS := fun D σ H => tv σ H fun y H1 => to σ H1 fun o H2 => tl σ H2 fun lo H3 => th σ H3 fun hi H4 => ∃ (l b : Addr) (xs ys : List V) (a c : Int), o = .ref l ∧ y = .ref b ∧ lo = .int a ∧ hi = .int c ∧
  H4 l = some (.lst xs) ∧ H4 b = some (.lst ys) ∧ l ≠ b ∧ 0 ≤ a ∧ a ≤ c ∧ c ≤ xs.length ∧ xs.length + ys.length ≤ sizeLine ∧ D.nx σ (upd H4 l (.lst (xs.take a.toNat ++ ys ++ xs.drop c.toNat)))
theorem ps_putSl {X : Cx} {o l h v : Expr} {pos sp sl : Pos} {tv to tl th : TE} (hv : PE X v tv) (ho : PE X o to) (hl : PE X l tl) (hh : PE X h th)
    (hs : swapsWith v (some (.Subscript o (.Slice (some l) (some h) none sl) sp)) pos.line X.env = pure false) :
    PS X (.Assign [.Subscript o (.Slice (some l) (some h) none sl) sp] v pos) (tPutSl tv to tl th) := by
  refine ⟨fun pins s σ H D I w => ?_⟩
  refine wpAny_Assign_Subscript (thn (hv.run pins s σ H _ I w) fun r s1 ⟨y, H1, I1, ry, w⟩ => thn (ho.run pins s1 σ H1 _ I1 w) fun u s2 ⟨x, H2, I2, rx, w⟩ => ?_) hs
  refine wpAny_Slice ?_
  simp only [evalPart_some, evalPart_none]
  refine thn (hl.run pins s2 σ H2 _ I2 w) fun vl s3 ⟨lo, H3, I3, rlo, w⟩ => thn (hh.run pins s3 σ H3 _ I3 w) fun vu s4 ⟨hi, H4, I4, rhi, w⟩ => wpAny_pure ?_
  obtain ⟨l', b', xs, ys, a, c, rfl, rfl, rfl, rfl, g1, g2, ne, c0, c1, c2, hz, q⟩ := w
  obtain rfl : u = Value.ref l' := rx
  obtain rfl : r = Value.ref b' := ry
  have I5 : Inv X pins σ H4 { s4 with heap := s4.heap.push { cls := .type "slice", data := .fields #[vl, vu, .none] } } := I4.kept (t' := s4.toks) fun b ob q => Heap.get?_push_of_some _ q
  exact set_slice I5 g1 g2 ne (Heap.IsSliceOf.new ..) rlo rhi c0 c1 c2 hz fun s' I' => ⟨σ, _, I', q⟩
section
variable {Φ : String → Spec} {X : Cx} {W : WX} {io : List Nat} {z z2 : E} {zb : Ss}
theorem st_ins {i : Nat} {x m : Str} {p ap cp pos : Pos} {k1 e : Expr} {a : A} {c : E} (h : nameB X.env.scope X.N i x = true) (ha : okA X.env.scope X.N a k1 = true) (hm : m = Str.ofString "insert") (hl : (ap.endLine == cp.line) = true)
    (hs1 : starEach [k1, e] X.env = (false, eval k1 X.env) :: starEach [e] X.env) (hs2 : starEach [e] X.env = (false, eval e X.env) :: starEach [] X.env) (h1 : PE X e (tE Φ X W c)) :
    PS X (.Expr (.Call (.Attribute (.Name x p) m ap) [k1, e] [] cp) pos) (tS Φ X W io (.dst (.ins i a) z c zb)) := by
  subst hm
  refine PS.imp (ps_expr (pe_bm PySem.F.plainAttrs_list PySem.F.slot_list_insert PySem.F.type_list_insert mt_insert (pe_nm h) (pa_cons (pe_A a ha) (pa_cons h1 pa_nil hs2) hs1) (hline := hl) (hs := hs1) (hplain := by rw [hs2]; rfl) (hfew := by rw [hs1, hs2]; rfl))) fun D σ H _ ⟨F, ρ, f, k, r, xo, w, K⟩ => ?_
  simp only [wpS, dsW] at w
  obtain ⟨hb, n, hn, w⟩ := w
  obtain ⟨p0, xs0, hb⟩ := ownB_at hb
  obtain ⟨a0, av0, g0, k1', k2, _⟩ := r.own hb
  refine ⟨_, k1', tyL k2, n, ev_rel r hn, F, ρ, f, _, _, r, xo.x, w, fun v F1 H1 e1 ρ1 f1 g1 fin o q => ?_⟩
  obtain ⟨hsh, q⟩ := q
  obtain ⟨pp, xs, he, hp, n0, n1, hz, q⟩ := onOwn_some q
  subst hp
  obtain ⟨p1, d1⟩ := e1
  have hsh : p1 = .sh := hsh
  subst hsh
  obtain ⟨a1, av, g, j1, j2, j3, ng, mg, upd'⟩ := fin.rep.own2 he
  have ea : a0 = a1 := by have := k1'.symm.trans j1; simpa using this
  subst ea
  have j3 := (OwA_sh.mp j3).2
  have dv := (Ow_sh.mp o).2
  obtain ⟨f', s1, c', r'⟩ := upd' (xs.take n.toNat ++ [d1] ++ xs.drop n.toNat) (av.take n.toNat ++ [v] ++ av.drop n.toNat) [] [] (OwA_sh.mpr ⟨rfl, dvA_append (dvA_append (j3.take _) (DvA_cons.mpr ⟨_, _, rfl, dv, DvA_nil.mpr rfl⟩)) (j3.drop _)⟩) (by simp) (by simp) (by simp)
  refine ⟨a0, av, n, v, rfl, rfl, j2, by rw [j3.length]; exact hz, n0, by omega, K.nx F1 _ σ _ f' r' ⟨fin.chg.trans c' fin.sub', fun x hx => ?_⟩ .refl q⟩
  rcases s1 x hx with z | z
  · exact fin.sub' x z
  · simp at z
theorem st_setsl {i : Nat} {x : Str} {p sp sl pos : Pos} {l h v : Expr} {a b : A} {e : E} (hx : nameB X.env.scope X.N i x = true) (ha : okA X.env.scope X.N a l = true) (hb : okA X.env.scope X.N b h = true) (hv : isComp2 v = false) (he : PE X v (tE Φ X W e)) :
    PS X (.Assign [.Subscript (.Name x p) (.Slice (some l) (some h) none sl) sp] v pos) (tS Φ X W io (.dst (.setsl i a b) z e zb)) := by
  have hs : swapsWith v (some (.Subscript (.Name x p) (.Slice (some l) (some h) none sl) sp)) pos.line X.env = pure false := by
    cases v <;> first | rfl | simp [isComp2] at hv
  refine PS.imp (ps_putSl he (pe_nm hx) (pe_A a ha) (pe_A b hb) hs) fun D σ H _ ⟨F, ρ, f, k, r, xo, w, K⟩ => ?_
  simp only [wpS, dsW] at w
  refine ⟨F, ρ, f, _, _, r, xo.x, w, fun v F1 H1 e1 ρ1 f1 g1 fin o q => ?_⟩
  obtain ⟨hown, q⟩ := q
  obtain ⟨p1, d1⟩ := e1
  have hown : p1 = .own .sh := hown
  subst hown
  obtain ⟨q0, ys, hd, q⟩ := isLst_some q
  cases hd
  obtain ⟨pp, xs, hat, hp, a', b', ea, eb, c0, c1, c2, hz, q⟩ := onOwn_some q
  subst hp
  simp only [Ow] at o
  obtain ⟨bb, zs, gg, rfl, hb2, hg1, hd2, _⟩ := o
  have hd2 := OwA_sh.mp hd2
  have apart : bb ∉ f1 := fin.apart bb (by rw [hg1]; exact .head _)
  obtain ⟨a1, av, g, j1, j2, j3, j4, j5, j6, _⟩ := fin.rep.own hat
  have inf : a1 ∈ f1 := j6 a1 (by simp)
  obtain ⟨a2, av2, g2, m1, m2, m3, ng, mg, upd'⟩ := fin.rep.own2 hat
  have e2 : a1 = a2 := by have := j1.symm.trans m1; simpa using this
  subst e2
  have m3 := (OwA_sh.mp m3).2
  obtain ⟨f', s1, c', r'⟩ := upd' (xs.take a'.toNat ++ ys ++ xs.drop b'.toNat) (av2.take a'.toNat ++ zs ++ av2.drop b'.toNat) [] [] (OwA_sh.mpr ⟨rfl, dvA_append (dvA_append (m3.take _) hd2.2) (m3.drop _)⟩) (by simp) (by simp) (by simp)
  refine ⟨_, m1, a', ev_rel fin.rep ea, b', ev_rel fin.rep eb, a1, bb, av2, zs, a', b', rfl, rfl, rfl, rfl, m2, hb2, fun z => apart (z ▸ inf), c0, c1, by rw [m3.length]; exact c2, by rw [m3.length, hd2.2.length]; exact hz, K.nx F1 _ σ _ f' r' ⟨fin.chg.trans c' fin.sub', fun x hx => ?_⟩ .refl q⟩
  rcases s1 x hx with z | z
  · exact fin.sub' x z
  · simp at z
/-- x[a], x[b] = x[b], x[a] of a list -/
theorem st_swpl {i : Nat} {a b : A} {x : Str} {q1 q2 q3 q4 : Expr} {p1 p3 p4 p6 p7 p9 pa pc pt pv pos : Pos} {k0 k00 : Nat} (hcl : X.calm = true) (h : nameB X.env.scope X.N i x = true)
    (ha1 : okA X.env.scope X.N a q1 = true) (hb1 : okA X.env.scope X.N b q2 = true) (hb2 : okA X.env.scope X.N b q3 = true) (ha2 : okA X.env.scope X.N a q4 = true)
    (hw : swappedStores [.Tuple [.Subscript (.Name x p1) q1 p3, .Subscript (.Name x p4) q2 p6] k0 pt] (.Tuple [.Subscript (.Name x p7) q3 p9, .Subscript (.Name x pa) q4 pc] k00 pv) X.env = pure none) :
    PS X (.Assign [.Tuple [.Subscript (.Name x p1) q1 p3, .Subscript (.Name x p4) q2 p6] k0 pt] (.Tuple [.Subscript (.Name x p7) q3 p9, .Subscript (.Name x pa) q4 pc] k00 pv) pos) (tS Φ X W io (.dst (.swpl i a b) z z2 zb)) := by
  have hA : ∀ {q : Expr} {p1 p3 : Pos} {m : A} (hq : okA X.env.scope X.N m q = true) (v : Value), assign (.Subscript (.Name x p1) q p3) X.env v = (do
      let ov ← holding [v] (eval (.Name x p1) X.env)
      let iv ← holding [v, ov] (eval q X.env)
      standAt p3
      holding [v, ov, iv] (setItem ov iv v)
      release [v, ov, iv] []) := by
    intro q p1 p3 m hq v
    cases q <;> first | rfl | (cases m <;> simp [okA] at hq)
  have rd : ∀ {q : Expr} {p1 p3 : Pos} {m : A} (hq : okA X.env.scope X.N m q = true), PE X (.Subscript (.Name x p1) q p3) _ := fun hq => pe_ix ix_list (pe_nm h) (pe_A _ hq) (okA_plain hq)
  refine PS.imp (ps_asg (pe_tup (pa_cons (rd hb2) (pa_cons (rd ha2) pa_nil rfl) rfl)) (pg_tup hcl (pgs_cons (pg_sub (pe_nm h) (pe_A a ha1) set_list (hA ha1)) (pgs_cons (pg_sub (pe_nm h) (pe_A b hb1) set_list (hA hb1)) pgs_nil))) rfl hw) fun D σ H _ ⟨F, ρ, f, k, r, xo, w, K⟩ => ?_
  simp only [wpS, dsW] at w
  obtain ⟨pp, xs, hat, hp, l, m, l2, m2, d, d2, g1, g2, g3, g4, g5, g6, q⟩ := onOwn_some w
  subst hp
  obtain ⟨a0, av, g, k1, k2, k3, _⟩ := r.own2 hat
  have k3 := (OwA_sh.mp k3).2
  obtain ⟨v, hv, dv⟩ := k3.of_get g5
  obtain ⟨v2, hv2, dv2⟩ := k3.of_get g6
  have i1 := ev_rel r g1
  have i3 := ev_rel r g3
  have t1 : atI av l = some v := atI_of (by rw [k3.length]; exact g2) hv
  have t2 : atI av l2 = some v2 := atI_of (by rw [k3.length]; exact g4) hv2
  refine ⟨_, k1, l2, i3, a0, av, l2, v2, rfl, rfl, .of k2, t2, _, k1, l, i1, a0, av, l, v, rfl, rfl, .of k2, t1, (show 2 ≤ sizeLine by unfold sizeLine; decide), fun p hp => ?_⟩
  have c1 : Chg F H F (upd H p (.tup [v2, v])) [] := chg_new hp
  have r1 := r.new c1 fun z hz => c1.dom z (r.there z hz)
  obtain ⟨a1, av1, g', n1, n2, n3, n4, n5, upd'⟩ := r1.own2 hat
  have ea : a1 = a0 := by rw [k1] at n1; simpa using n1.symm
  subst ea
  have na : a1 ≠ p := fun z => by rw [z, hp] at k2; cases k2
  have eav : av1 = av := by rw [upd_ne na, k2] at n2; simpa using n2.symm
  subst eav
  have n3 := (OwA_sh.mp n3).2
  obtain ⟨v', hv', dv'⟩ := n3.of_get g5
  obtain ⟨v2', hv2', dv2'⟩ := n3.of_get g6
  have ev : v' = v := by rw [hv] at hv'; simpa using hv'.symm
  have ev2 : v2' = v2 := by rw [hv2] at hv2'; simpa using hv2'.symm
  subst ev ev2
  refine ⟨p, [v2', v'], rfl, .of upd_same, rfl, ?_⟩
  refine ⟨v2', [v'], rfl, _, k1, l, i1, a1, av1, l, m, rfl, rfl, n2, by rw [k3.length]; exact g2, ?_⟩
  refine ⟨v', [], rfl, _, k1, l2, i3, a1, _, l2, m2, rfl, rfl, upd_same, by rw [List.length_set, k3.length]; exact g4, ?_⟩
  refine ⟨rfl, ?_⟩
  rw [upd_upd]
  obtain ⟨f', s1, c, r'⟩ := upd' ((xs.set m d2).set m2 d) ((av1.set m v2').set m2 v') [] [] (OwA_sh.mpr ⟨rfl, (n3.set m dv2').set m2 dv'⟩) (by simp) (by simp) (by simp)
  refine K.nx F _ σ _ f' r' ⟨(c1.weak (by simp)).trans c fun b hb => .inl hb, fun x hx => ?_⟩ .refl q
  rcases s1 x hx with z | z
  · exact .inl z
  · simp at z
end
end MS
namespace MS
open PySem PySem.Spec PyProof.Rows L2
/-! ### a walk over a dict: nothing but scalars and tuples of such beside it -/
section
variable {K : PySem.W.Frag} {F F' : Addr → Prop} {H H' : Hp}
theorem flat_all (t : ∀ a xs, SqT K H a xs → SqT K H' a xs) : ∀ {ds : List D} {xs : List V}, ds.all isScal = true → DvA K F H ds xs → DvA K F' H' ds xs
  | [], xs, _, h => DvA_nil.mpr (DvA_nil.mp h)
  | d :: ds, xs, n, h => by
    rw [List.all_cons, Bool.and_eq_true] at n
    obtain ⟨x, xr, e, h1, h2⟩ := DvA_cons.mp h
    exact DvA_cons.mpr ⟨x, xr, e, Dv_scal n.1 h1, flat_all t n.2 h2⟩
theorem flat_dv (t : ∀ a xs, SqT K H a xs → SqT K H' a xs) {d : D} {v : V} (n : flatD d = true) (h : Dv K F H d v) : Dv K F' H' d v := by
  cases d with
  | tuple ds =>
    simp only [Dv] at h ⊢
    obtain ⟨a, xs, e, h1, h2⟩ := h
    exact ⟨a, xs, e, t a xs h1, flat_all t n h2⟩
  | list ds => exact nomatch n
  | dict ds => exact nomatch n
  | _ => exact Dv_scal rfl h
@[simp] theorem flatR_nil : flatR [] = true := rfl
@[simp] theorem flatR_none {ρ : Rho} : flatR (none :: ρ) = flatR ρ := by simp [flatR]
@[simp] theorem flatR_sh {d : D} {ρ : Rho} : flatR (some ⟨.sh, d⟩ :: ρ) = (flatD d && flatR ρ) := by simp [flatR]
theorem flat_slots (t : ∀ a xs, SqT K H a xs → SqT K H' a xs) : ∀ {σ : L2.St} {ρ : Rho} {f : List Addr}, flatR ρ = true → Slots K F H σ ρ f → f = [] ∧ Slots K F' H' σ ρ []
  | [], [], f, _, h => ⟨h, rfl⟩
  | o :: σ, none :: ρ, f, n, h => by
    obtain ⟨f1, f2, rfl, h1, h2⟩ := h
    rw [flatR_none] at n
    obtain ⟨rfl, g2⟩ := flat_slots t n h2
    have h1 : f1 = [] := h1
    subst h1
    exact ⟨rfl, [], [], rfl, rfl, g2⟩
  | o :: σ, some e :: ρ, f, n, h => by
    obtain ⟨f1, f2, rfl, h1, h2⟩ := h
    obtain ⟨p, d⟩ := e
    have hp : p = .sh := by
      unfold flatR at n
      rw [List.all_cons, Bool.and_eq_true] at n
      have n1 : (decide (p = .sh) && flatD d) = true := n.1
      rw [Bool.and_eq_true] at n1
      exact of_decide_eq_true n1.1
    subst hp
    rw [flatR_sh, Bool.and_eq_true] at n
    obtain ⟨rfl, g2⟩ := flat_slots t n.2 h2
    obtain ⟨v, rfl, ho⟩ := h1
    obtain ⟨rfl, hd⟩ := Ow_sh.mp ho
    exact ⟨rfl, [], [], rfl, ⟨v, rfl, Ow_sh.mpr ⟨rfl, flat_dv t n.1 hd⟩⟩, g2⟩
  | [], _ :: _, _, _, h => h.elim
  | _ :: _, [], _, _, h => h.elim
theorem Rep.flat {σ : L2.St} {ρ : Rho} {f : List Addr} (t : ∀ a xs, SqT K H a xs → SqT K H' a xs) (th : ∀ a, F' a → H' a ≠ none) (n : flatR ρ = true) (r : Rep K F H σ ρ f) : f = [] ∧ Rep K F' H' σ ρ [] := by
  obtain ⟨e, s⟩ := flat_slots (F' := F') t n r.sl
  exact ⟨e, s, List.nodup_nil, fun _ h => (nomatch h), th⟩
theorem IP.at_ : ∀ {ps : List (Int × D)} {qs : List (Int × V)}, IP K F H ps qs → ∀ {j : Nat} {p : Int × D}, ps[j]? = some p → ∃ q, qs[j]? = some q ∧ p.1 = q.1
  | p :: ps, q :: qs, h, 0, p', e => by
    simp at e; subst e
    exact ⟨q, rfl, h.1⟩
  | p :: ps, q :: qs, h, j + 1, p', e => by
    obtain ⟨q', h1, h2⟩ := IP.at_ h.2.2 (j := j) (p := p') (by simpa using e)
    exact ⟨q', by simpa using h1, h2⟩
  | [], [], _, _, _, e => by simp at e
  | [], _ :: _, h, _, _, _ => h.elim
  | _ :: _, [], h, _, _, _ => h.elim
theorem IP.at2 : ∀ {ps : List (Int × D)} {qs : List (Int × V)}, IP K F H ps qs → ∀ {j : Nat} {p : Int × D}, ps[j]? = some p → ∃ q, qs[j]? = some q ∧ p.1 = q.1 ∧ Dv K F H p.2 q.2
  | p :: ps, q :: qs, h, 0, p', e => by
    simp at e; subst e
    exact ⟨q, rfl, h.1, h.2.1⟩
  | p :: ps, q :: qs, h, j + 1, p', e => by
    obtain ⟨q', h1, h2⟩ := IP.at2 h.2.2 (j := j) (p := p') (by simpa using e)
    exact ⟨q', by simpa using h1, h2⟩
  | [], [], _, _, _, e => by simp at e
  | [], _ :: _, h, _, _, _ => h.elim
  | _ :: _, [], h, _, _, _ => h.elim
theorem IP.flat (t : ∀ a xs, SqT K H a xs → SqT K H' a xs) : ∀ {ps : List (Int × D)} {qs : List (Int × V)}, (ps.all fun p => flatD p.2) = true → IP K F H ps qs → IP K F' H' ps qs
  | [], [], _, _ => trivial
  | p :: ps, q :: qs, n, h => by
    rw [List.all_cons, Bool.and_eq_true] at n
    exact ⟨h.1, flat_dv t n.1 h.2.1, IP.flat t n.2 h.2.2⟩
  | [], _ :: _, _, h => h.elim
  | _ :: _, [], _, h => h.elim
theorem gI_mem {α : Type} {l : Int} {d : α} : ∀ {hk : List (Int × α)}, gI hk l = some d → ∃ p ∈ hk, p.2 = d
  | [], h => by simp [gI_nil] at h
  | p :: r, h => by
    by_cases e : p.1 = l
    · rw [gI_pos e] at h
      exact ⟨p, by simp, by simpa using h⟩
    · rw [gI_neg e] at h
      obtain ⟨q, h1, h2⟩ := gI_mem h
      exact ⟨q, by simp [h1], h2⟩
theorem gI_key {α : Type} : ∀ {hk : List (Int × α)} {p : Int × α}, p ∈ hk → ∃ d, gI hk p.1 = some d
  | q :: r, p, h => by
    by_cases e : q.1 = p.1
    · exact ⟨_, gI_pos e⟩
    · rw [gI_neg e]
      rcases List.mem_cons.mp h with z | z
      · exact absurd (z ▸ rfl) e
      · exact gI_key z
theorem sqT_lock {a : Addr} {o : Obj} {kvs : List (Key × V)} (h : H a = some (.dK kvs)) : ∀ b xs, SqT K H b xs → SqT K (upd H a (.frz o (.dK kvs))) b xs := fun b xs q => by
  rcases q with (q | ⟨o', q⟩) | q
  · have : b ≠ a := fun z => by rw [z, h] at q; cases q
    exact .inl (.inl (by rw [upd_ne this]; exact q))
  · have : b ≠ a := fun z => by rw [z, h] at q; cases q
    exact .inl (.inr ⟨o', by rw [upd_ne this]; exact q⟩)
  · exact .inr q
theorem sqT_unlock {a : Addr} {o : Obj} {kvs : List (Key × V)} (h : H a = some (.frz o (.dK kvs))) : ∀ b xs, SqT K H b xs → SqT K (upd H a (.dK kvs)) b xs := fun b xs q => by
  rcases q with (q | ⟨o', q⟩) | q
  · have : b ≠ a := fun z => by rw [z, h] at q; cases q
    exact .inl (.inl (by rw [upd_ne this]; exact q))
  · have : b ≠ a := fun z => by rw [z, h] at q; cases q
    exact .inl (.inr ⟨o', by rw [upd_ne this]; exact q⟩)
  · exact .inr q
theorem Chg.sqT (c : Chg F H F' H' []) : ∀ b xs, SqT K H b xs → SqT K H' b xs := fun b xs q => by
  rcases q with (q | ⟨o', q⟩) | q
  · exact .inl (.inl (c.keep b _ q (by simp)))
  · exact .inl (.inr ⟨o', c.keep b _ q (by simp)⟩)
  · exact .inr q
end
section
variable {fs : Fs} {Φ : String → Spec} {X : Cx} {W : WX} {io : List Nat} {z z2 : E}
structure DInv (X : Cx) (Φ : String → Spec) (t : Tg) (b : Ss) (io : List Nat) (σ : L2.St) (ds : List D) (Hl : Hp) (k : Kt) (j : Nat) (σx : L2.St) (F : Addr → Prop) (H : Hp) (ρ : Rho) (f : List Addr) : Prop where
  rep : Rep X.K F H σx ρ f
  re : Reach X.K (fun _ => False) Hl [] F H f
  io : Io io σ σx
  go : wpFor (bodyF Φ t b) (ds.drop j) ρ k
theorem st_forD {i n r : Nat} {b : Ss} {tn tr x : Str} {pt px pr px2 pn2 ps pas pos : Pos} {body : List Stmt} (G : GdS fs Φ X W) (hcl : fs.calm = true) (hx : nameB X.env.scope X.N i x = true) (hn : nmB X.N X.env.scope (i :: io) n tn = true) (hr : nmB X.N X.env.scope (i :: io) r tr = true) (hnr : n ≠ r)
    (hb : PSs X body (tSs Φ X W (i :: io) b)) : PS X (.For (.Name tn pt) (.Name x px) (.Assign [.Name tr pr] (.Subscript (.Name x px2) (.Name tn pn2) ps) pas :: body) [] pos) (tS Φ X W io (.dst (.forD i n r) z z2 b)) := by
  obtain ⟨n1, n2, n3, n4⟩ := nm_of hn
  obtain ⟨r1, r2, r3, r4⟩ := nm_of hr
  have hu : X.A.units + 1 < cLine := by have := G.toGd.hu; omega
  refine PS.imp (ps_lock (ps_for G.po (G.calm hcl) (pi_keys (pe_nm hx)) (pg_name G.nd n2 n3 (.inl (G.fnt tn))) (pss_cons (ps_asg (pe_dget hu (pe_nm hx) (pe_nm n4) (fun _ _ => rfl)) (pg_name G.nd r2 r3 (.inl (G.fnt tr))) rfl rfl) hb) (fun _ => rfl))) fun D σ H hlen ⟨F, ρ, f, k, r0, xo, w, K⟩ => ?_
  simp only [wpS, dsW] at w
  obtain ⟨hk, e1, fl, fv, w⟩ := w
  obtain ⟨v0, g0, k1, o0⟩ := r0.get e1
  obtain ⟨a, qs, rfl, hFa, k2, k3⟩ := dv_dI (Ow_sh.mp o0).2
  have hi : i < ρ.length := (List.getElem?_eq_some_iff.mp (at_some e1)).1
  obtain ⟨fd, _, rd⟩ := r0.drop (i := i)
  refine ⟨a, _, k2, trivial, fun od => ?_⟩
  generalize hHl : upd H a (.frz od (.dK (hiV qs))) = Hl
  have hla : Hl a = some (.frz od (.dK (hiV qs))) := by rw [← hHl, upd_same]
  have tl : ∀ b xs, SqT X.K H b xs → SqT X.K Hl b xs := by rw [← hHl]; exact sqT_lock k2
  obtain ⟨rfl, rl⟩ := rd.flat (F' := fun _ => False) tl (fun _ z => z.elim) fl
  refine ⟨_, k1, a, od, rfl, .inl ⟨_, hla, ?_⟩⟩
  -- the end of the walk
  have fin : ∀ (Fx : Addr → Prop) (Hx : Hp) (σx : L2.St) (ρx : Rho) (fx : List Addr), Rep X.K Fx Hx σx ρx fx → Chg (fun _ => False) Hl Fx Hx [] → Io (i :: io) σ σx → flatR ρx = true →
      Hx a = some (.frz od (.dK (hiV qs))) ∧ fx = [] ∧ Chg F H F (upd Hx a (.dK (hiV qs))) f ∧ ∃ f', f' = [] ∧ Rep X.K F (upd Hx a (.dK (hiV qs))) σx (ρx.set i (some (sh (dI hk)))) f' := by
    intro Fx Hx σx ρx fx rx c hio hfl
    have hxa := c.keep a _ hla (by simp)
    have kp : ∀ b o, b ≠ a → H b = some o → Hx b = some o := fun b o nb hb => c.keep b o (by rw [← hHl, upd_ne nb]; exact hb) (by simp)
    have ch : Chg F H F (upd Hx a (.dK (hiV qs))) f := ⟨fun _ h => h, fun _ h => .inl h, fun b o hb _ => by
      by_cases nb : b = a
      · rw [nb] at hb ⊢; rw [upd_same, ← k2, hb]
      · rw [upd_ne nb]; exact kp b o nb hb, fun b hb => by
      by_cases nb : b = a
      · rw [nb, upd_same]; simp
      · rw [upd_ne nb]
        cases e : H b with
        | none => exact absurd e hb
        | some o => rw [kp b o nb e]; simp⟩
    obtain ⟨rfl, r3⟩ := rx.flat (F' := F) (sqT_unlock hxa) (fun z hz => ch.dom z (r0.there z hz)) hfl
    have tt : ∀ b xs, SqT X.K H b xs → SqT X.K (upd Hx a (.dK (hiV qs))) b xs := fun b xs q => sqT_unlock hxa b xs (c.sqT b xs (tl b xs q))
    have dv : Dv X.K F (upd Hx a (.dK (hiV qs))) (dI hk) (.ref a) := by
      have ip := k3.flat (F' := F) tt fv
      unfold dI
      simp only [Dv]
      refine .inr ⟨a, qs.map (·.2), rfl, hFa, .inl ⟨qs, upd_same, ?_, rfl⟩, ip.dvk⟩
      simp only [List.map_map]
      exact ip.keys
    have lx : σx.length = σ.length := hio.len
    have hi2 : i < ρx.length := by
      have h1 := rx.sl.length
      have h2 := r0.sl.length
      omega
    obtain ⟨f', hf', r4⟩ := r3.put (i := i) (v := .ref a) (e := sh (dI hk)) (g := []) hi2 (Ow_sh.mpr ⟨rfl, dv⟩) (by simp) (by simp)
    have sx : σx[i]? = some (some (.ref a)) := (hio.eq i (by simp)).trans k1
    rw [set_self sx] at r4
    refine ⟨hxa, rfl, ch, f', ?_, r4⟩
    cases f' with
    | nil => rfl
    | cons y ys => exact absurd (hf' y (by simp)) (by simp)
  let kin : Kt := { nx := fun ρ' => flatR ρ' = true ∧ k.nx (ρ'.set i (some (sh (dI hk)))), rt := fun e ρ' => e.p = .sh ∧ flatD e.d = true ∧ flatR ρ' = true ∧ k.rt e (ρ'.set i (some (sh (dI hk)))), bk := fun _ => False, ct := fun _ => False, xe := fun _ _ => False }
  have done : ∀ (Fx : Addr → Prop) (Hx : Hp) (σx : L2.St) (ρx : Rho) (fx : List Addr), Rep X.K Fx Hx σx ρx fx → Reach X.K (fun _ => False) Hl [] Fx Hx fx → Io (i :: io) σ σx → kin.nx ρx → Hx a = some (.frz od (.dK (hiV qs))) ∧ D.nx σx (upd Hx a (.dK (hiV qs))) := by
    intro Fx Hx σx ρx fx rx re hio ⟨q1, q2⟩
    obtain ⟨hxa, _, ch, f', rfl, r4⟩ := fin Fx Hx σx ρx fx rx re.chg hio q1
    exact ⟨hxa, K.nx F _ σx _ [] r4 ⟨ch, fun _ h => (nomatch h)⟩ (hio.weak fun z hz => by simp [hz]) q2⟩
  have lend : (hk.map (pairD hk)).length = hk.length := List.length_map _
  refine ⟨fun j m σx Hx => m = hk.length - j ∧ j ≤ hk.length ∧ ∃ Fx ρx fx, DInv X Φ (.tup [n, r]) b (i :: io) σ (hk.map (pairD hk)) Hl kin j σx Fx Hx ρx fx, ⟨hk.length, by simp, Nat.zero_le _, _, _, _, rl, .refl, .refl, w⟩, ?_⟩
  rintro j m σx Hx ⟨rfl, hjl, Fx, ρx, fx, L⟩
  have hxa := L.re.chg.keep a _ hla (by simp)
  have lq : (hiV qs).length = hk.length := by rw [hiV, List.length_map, k3.length]
  by_cases hlt : j < hk.length
  · refine .inr ⟨⟨hxa, by rw [lq]; exact hlt⟩, fun σ' H' => ∃ Fx ρx fx, DInv X Φ (.tup [n, r]) b (i :: io) σ (hk.map (pairD hk)) Hl kin (j + 1) σ' Fx H' ρx fx, fun σ' H' ⟨F', ρ', f', L'⟩ => ⟨hk.length - (j + 1), by omega, rfl, by omega, F', ρ', f', L'⟩, fun y H' hy => ?_⟩
    obtain ⟨eH, kk, vv, hkv, rfl⟩ := hy
    have eH := eH.symm
    subst eH
    obtain ⟨q, hq, ek⟩ := k3.at_ (List.getElem?_eq_getElem hlt)
    have hkk : kk = .inl q.1 := by
      rw [hiV, List.getElem?_map, hq] at hkv
      simp only [Option.map_some, Option.some.injEq, Prod.mk.injEq] at hkv
      exact hkv.1.symm
    subst hkk
    obtain ⟨d, hd⟩ := gI_key (hk := hk) (p := hk[j]) (List.getElem_mem hlt)
    obtain ⟨vd, hvd, dvd⟩ := (k3.get (l := hk[j].1)).2 d hd
    have fd : flatD d = true := by
      obtain ⟨p, hp, e⟩ := gI_mem hd
      have := List.all_eq_true.mp fv p hp
      rw [← e]; exact this
    have g0 := L.go
    rw [List.drop_eq_getElem_cons (by rw [lend]; exact hlt)] at g0
    unfold wpFor bodyF at g0
    obtain ⟨ρb, hbd, gb⟩ := onO_some g0
    rw [List.getElem_map] at hbd
    have hbd : (ρx.set n (some (sh (.int hk[j].1)))).set r (some (sh d)) = ρb := by
      simp only [pairD, hd, Tg.bind, setAll, Option.getD_some, Option.some.injEq] at hbd
      exact hbd
    subst hbd
    have lenx : σx.length = X.N.length := L.io.len.trans hlen
    have hni : n ≠ i := fun z => by
      rw [List.contains_eq_mem, decide_eq_false_iff_not] at n1
      exact n1 (by simp [z])
    have hri : r ≠ i := fun z => by
      rw [List.contains_eq_mem, decide_eq_false_iff_not] at r1
      exact r1 (by simp [z])
    have hnl : n < ρx.length := lt_of_N L.rep lenx n2
    have hrl : r < ρx.length := lt_of_N L.rep lenx r2
    obtain ⟨f2, hf2, rep2⟩ := L.rep.put (i := n) (v := .int q.1) (e := sh (.int hk[j].1)) (g := []) hnl (Ow_sh.mpr ⟨rfl, by rw [ek]; exact dv_int⟩) (by simpa using L.rep.nd) (by simp)
    have dvx : Dv X.K Fx Hx d vd := flat_dv (fun b xs q => L.re.chg.sqT b xs (tl b xs q)) fd dvd
    obtain ⟨f3, hf3, rep3⟩ := rep2.put (i := r) (v := vd) (e := sh d) (g := []) (by rw [List.length_set]; exact hrl) (Ow_sh.mpr ⟨rfl, dvx⟩) (by simpa using rep2.nd) (by simp)
    have io3 : Io (i :: io) σ ((σx.set n (some (.int q.1))).set r (some vd)) := L.io.trans ((Io.set n1).trans (Io.set r1))
    have re3 : Reach X.K (fun _ => False) Hl [] Fx Hx f3 := L.re.cut fun z hz => by
      have h1 := hf3 z hz
      rw [List.nil_append] at h1
      have h2 := hf2 z h1
      rw [List.nil_append] at h2
      exact h2
    have sx : σx[i]? = some (some (.ref a)) := (L.io.eq i (by simp)).trans k1
    have hns : n < σx.length := by have := L.rep.sl.length; omega
    refine ⟨.ref a, by rw [List.getElem?_set_ne hni]; exact sx, .int q.1, List.getElem?_set_self hns, a, vd, rfl, ?_, ?_⟩
    · refine .inl ⟨hiV qs, .inl q.1, .inr ⟨od, hxa⟩, rfl, ?_⟩
      rw [valV_hi, ← ek]; exact hvd.symm
    · refine ⟨Fx, _, f3, { nx := fun ρ' => wpFor (bodyF Φ (.tup [n, r]) b) ((hk.map (pairD hk)).drop (j + 1)) ρ' kin, rt := kin.rt, bk := kin.nx, ct := fun ρ' => wpFor (bodyF Φ (.tup [n, r]) b) ((hk.map (pairD hk)).drop (j + 1)) ρ' kin, xe := kin.xe }, rep3, fun _ _ _ _ _ _ _ _ _ _ _ _ q => q.elim, gb, ?_, ?_, ?_, ?_⟩
      · intro F' H'' σ' ρ' f' r' s' c q'
        exact ⟨F', ρ', f', r', re3.trans s', io3.trans c, q'⟩
      · intro F' H'' σ' ρ' f' r' s' c q'
        exact done F' H'' σ' ρ' f' r' (re3.trans s') (io3.trans c) q'
      · intro F' H'' σ' ρ' f' r' s' c q'
        exact ⟨F', ρ', f', r', re3.trans s', io3.trans c, q'⟩
      · intro v F' H'' σ' ρ' f' g e s' c o q'
        obtain ⟨q1, q2, q3, q4⟩ := q'
        have s2 := re3.finG s'
        obtain ⟨hya, _, ch, f5, rfl, r5⟩ := fin F' H'' σ' ρ' f' s'.rep s2.chg (io3.trans c) q3
        obtain ⟨ep, ed⟩ := e
        have q1 : ep = .sh := q1
        subst q1
        obtain ⟨rfl, dv⟩ := Ow_sh.mp o
        exact ⟨hya, K.rt v F _ σ' _ [] [] (sh ed) ⟨r5, by simp, by simp, by simp, by simp, ch⟩ ((io3.trans c).weak fun z hz => by simp [hz]) (Ow_sh.mpr ⟨rfl, flat_dv (sqT_unlock hya) q2 dv⟩) q4⟩
  · refine .inl ⟨⟨hxa, by rw [lq]; omega⟩, ?_⟩
    have g0 := L.go
    rw [List.drop_eq_nil_of_le (by rw [lend]; omega)] at g0
    exact done Fx Hx σx ρx fx L.rep L.re L.io g0
end
/-! ### a walk over the pairs of a dict just made -/
section
variable {K : PySem.W.Frag} {F : Addr → Prop} {H H' : Hp}
/-- what may be otherwise elsewhere -/
structure Mv (K : PySem.W.Frag) (H H' : Hp) : Prop where
  mo : ∀ a (m : MO), H a = some m.ho → H' a = some m.ho
  sq : ∀ a xs, SqT K H a xs → SqT K H' a xs
  x : ∀ a o, IsX o → H a = some o → H' a = some o
  rw : ∀ a xs, RawL K H a xs → RawL K H' a xs
  tp : ∀ a xs, H a = some (.tup xs) → H' a = some (.tup xs)
theorem Mv.dv (c : Mv K H H') {d : D} {v : V} (h : Dv K F H d v) : Dv K F H' d v := Dv.imp (fun a m hf q => ⟨hf, c.mo a m q⟩) c.sq c.x d v h
theorem Mv.dva (c : Mv K H H') {d : List D} {v : List V} (h : DvA K F H d v) : DvA K F H' d v := DvA.imp (fun a m hf q => ⟨hf, c.mo a m q⟩) c.sq c.x d v h
theorem Mv.rawD (c : Mv K H H') {d : D} {v : V} (h : RawD K F H d v) : RawD K F H' d v := by
  cases d with
  | list ds =>
    obtain ⟨a, xs, rfl, h1, h2⟩ := h
    exact ⟨a, xs, rfl, c.rw a xs h1, c.dva h2⟩
  | _ => exact ⟨h.1, Dv_scal h.1 h.2⟩
mutual
theorem Ow.mv (c : Mv K H H') : ∀ (d : D) (p : Perm) (v : V) (f : List Addr), Ow K F H d p v f → Ow K F H' d p v f
  | .list ds, .own p, v, f, h => by
    obtain ⟨a, xs, g, rfl, h1, rfl, h2, _⟩ := Ow_list.mp h
    exact Ow_list.mpr ⟨a, xs, g, rfl, c.mo a (.l xs) h1, rfl, OwA.mv c ds p xs g h2, trivial⟩
  | .dict kvs, .own p, v, f, h => by
    obtain ⟨a, xs, g, rfl, h1, rfl, h2, _⟩ := Ow_dict.mp h
    exact Ow_dict.mpr ⟨a, xs, g, rfl, h1.imp fun m e => c.mo a m e, rfl, OwK.mv c kvs p xs g h2, trivial⟩
  | .tuple ds, .own p, v, f, h => by
    obtain ⟨h1, h2, a, xs, e, h3, h4⟩ := Ow_tup.mp h
    exact Ow_tup.mpr ⟨h1, c.dv h2, a, xs, e, c.tp a xs h3, c.dva h4⟩
  | d, .sh, v, f, h => by
    obtain ⟨h1, h2⟩ := Ow_sh.mp h
    exact Ow_sh.mpr ⟨h1, c.dv h2⟩
  | d, .raw, v, f, h => by
    obtain ⟨h1, h2⟩ := Ow_raw.mp h
    exact Ow_raw.mpr ⟨h1, c.rawD h2⟩
  | .none, .own p, v, f, h => by
    obtain ⟨h1, h2⟩ := (Ow_own_scal rfl).mp h
    exact (Ow_own_scal rfl).mpr ⟨h1, c.dv h2⟩
  | .bool _, .own p, v, f, h => by
    obtain ⟨h1, h2⟩ := (Ow_own_scal rfl).mp h
    exact (Ow_own_scal rfl).mpr ⟨h1, c.dv h2⟩
  | .int _, .own p, v, f, h => by
    obtain ⟨h1, h2⟩ := (Ow_own_scal rfl).mp h
    exact (Ow_own_scal rfl).mpr ⟨h1, c.dv h2⟩
  | .str _, .own p, v, f, h => by
    obtain ⟨h1, h2⟩ := (Ow_own_scal rfl).mp h
    exact (Ow_own_scal rfl).mpr ⟨h1, c.dv h2⟩
theorem OwA.mv (c : Mv K H H') : ∀ (ds : List D) (p : Perm) (xs : List V) (f : List Addr), OwA K F H ds p xs f → OwA K F H' ds p xs f
  | [], p, xs, f, h => OwA_nil.mpr (OwA_nil.mp h)
  | d :: ds, p, xs, f, h => by
    obtain ⟨x, xr, f1, f2, e1, e2, h1, h2⟩ := OwA_cons.mp h
    exact OwA_cons.mpr ⟨x, xr, f1, f2, e1, e2, Ow.mv c d p x f1 h1, OwA.mv c ds p xr f2 h2⟩
theorem OwK.mv (c : Mv K H H') : ∀ (kvs : List (D × D)) (p : Perm) (xs : List V) (f : List Addr), OwK K F H kvs p xs f → OwK K F H' kvs p xs f
  | [], p, xs, f, h => by simp only [OwK] at h ⊢; exact h
  | (_, d) :: kvs, p, xs, f, h => by
    simp only [OwK] at h ⊢
    obtain ⟨x, xr, f1, f2, e1, e2, h1, h2⟩ := h
    exact ⟨x, xr, f1, f2, e1, e2, Ow.mv c d p x f1 h1, OwK.mv c kvs p xr f2 h2⟩
end
theorem Slots.mv (c : Mv K H H') : ∀ {σ : L2.St} {ρ : Rho} {f : List Addr}, Slots K F H σ ρ f → Slots K F H' σ ρ f
  | [], [], f, h => h
  | o :: σ, none :: ρ, f, h => by
    obtain ⟨f1, f2, e, h1, h2⟩ := h
    exact ⟨f1, f2, e, h1, Slots.mv c h2⟩
  | o :: σ, some e :: ρ, f, h => by
    obtain ⟨f1, f2, e, ⟨v, e2, h1⟩, h2⟩ := h
    exact ⟨f1, f2, e, ⟨v, e2, Ow.mv c _ _ _ _ h1⟩, Slots.mv c h2⟩
  | [], _ :: _, _, h => h.elim
  | _ :: _, [], _, h => h.elim
theorem mv_unlock {a : Addr} {o : Obj} {kvs : List (Key × V)} (h : H a = some (.frz o (.dK kvs))) : Mv K H (upd H a (.dK kvs)) := by
  have ne : ∀ b u, H b = some u → (∀ o' k', u ≠ .frz o' (.dK k')) → b ≠ a := fun b u e n z => by
    rw [z, h] at e
    exact n o kvs (Option.some.inj e).symm
  refine ⟨fun b m e => ?_, sqT_unlock h, fun b u x e => ?_, fun b xs q => ?_, fun b xs e => ?_⟩
  · rw [upd_ne (ne b _ e fun o' k' z => by cases m <;> cases z)]; exact e
  · rw [upd_ne (ne b _ e fun o' k' z => by cases x <;> cases z)]; exact e
  · rcases q with ⟨o', q⟩ | q
    · exact .inl ⟨o', by rw [upd_ne (ne b _ q fun o2 k' z => by cases z)]; exact q⟩
    · exact .inr q
  · rw [upd_ne (ne b _ e fun o' k' z => by cases z)]; exact e
end
/-- what an expression yields is locked -/
def tLk (X : Cx) (t : TE) : TE := fun σ H Q => t σ H fun x H1 => ∃ d u, H1 d = some u ∧ Mut (some u) ∧ ∀ od, (∀ o' u', X.H_0 d ≠ some (.frz o' u')) → Q x (upd H1 d (.frz od u))
def tUnl (X : Cx) (t : TS) : TS := fun D σ H => t ⟨fun σ' H' => ∃ d od u, H' d = some (.frz od u) ∧ (∀ o' u', X.H_0 d ≠ some (.frz o' u')) ∧ D.nx σ' (upd H' d u), fun _ _ => False, fun _ _ => False, fun _ _ => False⟩ σ H
theorem pe_lk {X : Cx} {e : Expr} {t : TE} (h : PE X e t) : PE X e (tLk X t) := by
  refine ⟨fun pins s σ H Q I hw => thn (h.run pins s σ H _ I hw) fun v s1 ⟨x, H1, I1, r, d, u, hd, mu, q⟩ => ?_⟩
  obtain ⟨od, I2⟩ := I1.lock hd mu
  exact ⟨x, _, I2, r, q od (I1.nofrz hd mu)⟩
theorem ps_unl {X : Cx} {st : Stmt} {t : TS} (h : PS X st t) : PS X st (tUnl X t) := by
  refine ⟨fun pins s σ H D I hw => thn (h.run pins s σ H _ I hw) fun f s1 q => ?_⟩
  cases f with
  | next =>
    obtain ⟨σ', H', I2, d, od, u, e, nf, q⟩ := q
    exact ⟨σ', _, I2.unlock e nf, q⟩
  | brk => obtain ⟨σ', H', I2, q⟩ := q; exact q.elim
  | cont => obtain ⟨σ', H', I2, q⟩ := q; exact q.elim
  | ret v => obtain ⟨x, σ', H', I2, r, q⟩ := q; exact q.elim
section
variable {fs : Fs} {Φ : String → Spec} {X : Cx} {W : WX} {io : List Nat} {z : E}
theorem st_forI {n r : Nat} {c : E} {b : Ss} {elts : List Expr} {kk : Nat} {tp py pc ap cp pos : Pos} {y m : Str} {a0 : Expr} {as : List Expr} {body : List Stmt} (G : GdS fs Φ X W) (hcl : fs.calm = true) (hm : m = Str.ofString "items") (hl : (ap.endLine == cp.line) = true)
    (ht : okT X.env.scope X.N (.tup [n, r]) (.Tuple elts kk tp) = true) (hn : io.contains n = false) (hr : io.contains r = false) (he : PE X (.Call (.Name y py) (a0 :: as) [] pc) (tE Φ X W c)) (hb : PSs X body (tSs Φ X W io b)) :
    PS X (.For (.Tuple elts kk tp) (.Call (.Attribute (.Call (.Name y py) (a0 :: as) [] pc) m ap) [] [] cp) body [] pos) (tS Φ X W io (.dst (.forI n r) c z b)) := by
  subst hm
  have hg : PG X (.Tuple elts kk tp) (gTg X.K (.tup [n, r])) := pg_ok (sc := X.env.scope) (G.calm hcl) G.nd (fun x z => ⟨z, .inl (G.fnt x)⟩) ht
  have hio : ((Tg.tup [n, r]).slots.all fun i => !io.contains i) = true := by simp only [Tg.slots, List.all_cons, List.all_nil, hn, hr]; rfl
  refine PS.imp (ps_unl (ps_for G.po (G.calm hcl) (pi_items (pe_lk he) rfl hl) hg hb (fun _ => rfl))) fun D σ H hlen ⟨F, ρ, f, k, r0, xo, w, K⟩ => ?_
  simp only [wpS, dsW] at w
  refine ⟨F, ρ, f, _, _, r0, xo.x, w, fun v F1 H1 e1 ρ1 f1 g1 fin o q => ?_⟩
  obtain ⟨hp, hk, hd, q⟩ := q
  obtain ⟨p1, d1⟩ := e1
  have hp : p1 = .own .sh := hp
  have hd : d1 = dI hk := hd
  subst hp hd
  obtain ⟨a, qs, rfl, rfl, h1, ip⟩ := ow_dI.mp o
  refine ⟨a, _, h1, trivial, fun od nf => ⟨a, od, _, rfl, upd_same, ?_⟩⟩
  generalize hHl : upd H1 a (.frz od (.dK (hiV qs))) = Hl
  have hla : Hl a = some (.frz od (.dK (hiV qs))) := by rw [← hHl, upd_same]
  have na1 : a ∉ f1 := fun z => (List.nodup_append.mp fin.nd).2.2 a (by simp) a z rfl
  have cl : Chg F1 H1 F1 Hl [a] := by rw [← hHl]; exact chg_upd (by rw [h1]; simp)
  have offa : ∀ x ∈ [a], ¬ F1 x := fin.off
  have lsta : ∀ x ∈ [a], Mu H1 x := fun x hx => (show x = a by simpa using hx) ▸ ⟨.k _, h1⟩
  have rl : Rep X.K F1 Hl σ ρ1 f1 := ⟨fin.rep.sl.chg cl offa lsta fun x hx z => na1 ((show x = a by simpa using z) ▸ hx), fin.rep.nd, fin.rep.off, fun x hx => cl.dom x (fin.rep.there x hx)⟩
  have il : IP X.K F1 Hl hk qs := ip.chg cl offa lsta
  generalize hds : (hk.map fun p => PyData.tuple [.int p.1, p.2]) = ds at q
  have dlen : ds.length = hk.length := by rw [← hds, List.length_map]
  have lq : (hiV qs).length = ds.length := by rw [hiV, List.length_map, ip.length, dlen]
  let kin : Kt := { nx := k.nx, rt := fun _ _ => False, bk := fun _ => False, ct := fun _ => False, xe := fun _ _ => False }
  have done : ∀ (Fx : Addr → Prop) (Hx : Hp) (σx : L2.St) (ρx : Rho) (fx : List Addr), Rep X.K Fx Hx σx ρx fx → Reach X.K F1 Hl f1 Fx Hx fx → Io io σ σx → k.nx ρx →
      ∃ d od u, Hx d = some (.frz od u) ∧ (∀ o' u', X.H_0 d ≠ some (.frz o' u')) ∧ D.nx σx (upd Hx d u) := by
    intro Fx Hx σx ρx fx rx re hiox hq
    have hxa := re.chg.keep a _ hla na1
    have keepH : ∀ b o, H b = some o → b ∉ f → Hx b = some o ∧ b ≠ a := fun b o hb nb => by
      have e1 := fin.chg.keep b o hb nb
      have ba : b ≠ a := fun z => by
        subst z
        rcases fin.sub b (by simp) with y | y
        · exact nb y
        · rw [hb] at y; cases y
      have e2 := cl.keep b o e1 (by simpa using ba)
      have nf1 : b ∉ f1 := fun z => by
        rcases fin.sub' b z with y | y
        · exact nb y
        · rw [hb] at y; cases y
      exact ⟨re.chg.keep b o e2 nf1, ba⟩
    have none1 : ∀ b, Hl b = none → H b = none := fun b hb => by
      cases e : H b with
      | none => rfl
      | some o => exact absurd hb (cl.dom b (fin.chg.dom b (by rw [e]; simp)))
    have ch : Chg F H Fx (upd Hx a (.dK (hiV qs))) f := ⟨fun b hb => re.chg.mono b (fin.chg.mono b hb), fun b hb => by
      rcases re.chg.new b hb with y | y | y
      · exact fin.chg.new b y
      · rcases fin.sub' b y with t | t
        · exact .inr (.inl t)
        · exact .inr (.inr t)
      · exact .inr (.inr (none1 b y)), fun b o hb nb => by
      obtain ⟨e, ne⟩ := keepH b o hb nb
      rw [upd_ne ne]; exact e, fun b hb => by
      by_cases ne : b = a
      · rw [ne, upd_same]; simp
      · rw [upd_ne ne]; exact re.chg.dom b (cl.dom b (fin.chg.dom b hb))⟩
    have rep2 : Rep X.K Fx (upd Hx a (.dK (hiV qs))) σx ρx fx := ⟨rx.sl.mv (mv_unlock hxa), rx.nd, rx.off, fun b hb => by
      by_cases ne : b = a
      · rw [ne, upd_same]; simp
      · rw [upd_ne ne]; exact rx.there b hb⟩
    refine ⟨a, od, _, hxa, nf, K.nx Fx _ σx ρx fx rep2 ⟨ch, fun b hb => ?_⟩ hiox hq⟩
    rcases re.sub b hb with y | y
    · exact fin.sub' b y
    · exact .inr (none1 b y)
  refine ⟨fun j m σx Hx => m = ds.length - j ∧ j ≤ ds.length ∧ ∃ Fx ρx fx, FInv X Φ (.tup [n, r]) b io σ ds F1 Hl f1 kin j σx Fx Hx ρx fx, ⟨ds.length, by simp, Nat.zero_le _, F1, ρ1, f1, rl, .refl, .refl, .refl, q⟩, ?_⟩
  rintro j m σx Hx ⟨rfl, hjl, Fx, ρx, fx, L⟩
  have hxa := L.re.chg.keep a _ hla na1
  by_cases hlt : j < ds.length
  · refine .inr ⟨⟨hxa, by rw [lq]; exact hlt⟩, fun σ' H' => ∃ F' ρ' f', FInv X Φ (.tup [n, r]) b io σ ds F1 Hl f1 kin (j + 1) σ' F' H' ρ' f', fun σ' H' ⟨F', ρ', f', L'⟩ => ⟨ds.length - (j + 1), by omega, rfl, by omega, F', ρ', f', L'⟩, fun x H' hy => ?_⟩
    obtain ⟨T, k0, v0, hkv, rfl, hT, rfl⟩ := hy
    have hj2 : j < hk.length := by omega
    obtain ⟨q0, hq0, ek, dq⟩ := il.at2 (List.getElem?_eq_getElem hj2)
    have hkk : k0 = .inl q0.1 ∧ v0 = q0.2 := by
      rw [hiV, List.getElem?_map, hq0] at hkv
      simp only [Option.map_some, Option.some.injEq, Prod.mk.injEq] at hkv
      exact ⟨hkv.1.symm, hkv.2.symm⟩
    obtain ⟨rfl, rfl⟩ := hkk
    have g0 := L.go
    rw [List.drop_eq_getElem_cons hlt] at g0
    unfold wpFor bodyF at g0
    obtain ⟨ρb, hbd, gb⟩ := onO_some g0
    have ed : ds[j] = .tuple [.int hk[j].1, hk[j].2] := by
      have : ds[j]? = some (.tuple [.int hk[j].1, hk[j].2]) := by rw [← hds, List.getElem?_map, List.getElem?_eq_getElem hj2]; rfl
      exact (List.getElem?_eq_some_iff.mp this).2
    rw [ed] at hbd
    have cy : Chg Fx Hx Fx (upd Hx T (.tup [kV (.inl q0.1), q0.2])) [] := chg_new hT
    have dvx : DvA X.K Fx Hx [hk[j].2] [q0.2] := L.keep.dvA (DvA_cons.mpr ⟨_, _, rfl, dq, DvA_nil.mpr rfl⟩)
    have dvx := DvA.chg cy (by simp) (by simp) _ _ dvx
    obtain ⟨x1, xr1, ex1, dq2, _⟩ := DvA_cons.mp dvx
    simp only [List.cons.injEq] at ex1
    obtain ⟨rfl, rfl⟩ := ex1
    have dx : Dv X.K Fx (upd Hx T (.tup [kV (.inl q0.1), q0.2])) (.tuple [.int hk[j].1, hk[j].2]) (.ref T) := by
      simp only [Dv]
      refine ⟨T, _, rfl, .of upd_same, DvA_cons.mpr ⟨_, _, rfl, ?_, DvA_cons.mpr ⟨_, _, rfl, dq2, DvA_nil.mpr rfl⟩⟩⟩
      rw [ek]; exact dv_int
    have rep' : Rep X.K Fx _ σx ρx fx := L.rep.new cy fun b hb => cy.dom b (L.rep.there b hb)
    have re' := L.re.new cy
    have keep' := L.keep.trans (cy.keepD (by simp) (by simp))
    have lenx : σx.length = X.N.length := L.io.len.trans hlen
    refine bind_ok rep' dx hbd (slots_lt rep' lenx ht) fun σ2 f2 hf2 r2 w2 n2 => ?_
    have io2 : Io io σ σ2 := L.io.trans (io_bind hio w2 n2)
    have re2 := re'.cut hf2
    refine ⟨Fx, ρb, f2, { nx := fun ρ' => wpFor (bodyF Φ (.tup [n, r]) b) (ds.drop (j + 1)) ρ' kin, rt := kin.rt, bk := kin.nx, ct := fun ρ' => wpFor (bodyF Φ (.tup [n, r]) b) (ds.drop (j + 1)) ρ' kin, xe := kin.xe }, r2, fun _ _ _ _ _ _ _ _ _ _ _ _ q => q.elim, gb, ?_, ?_, ?_, ?_⟩
    · intro F' H'' σ' ρ' f' r' s' c q'
      exact ⟨F', ρ', f', r', re2.trans s', keep'.trans (s'.chg.keepD r2.off r2.lst), io2.trans c, q'⟩
    · intro F' H'' σ' ρ' f' r' s' c q'
      exact done F' H'' σ' ρ' f' r' (re2.trans s') (io2.trans c) q'
    · intro F' H'' σ' ρ' f' r' s' c q'
      exact ⟨F', ρ', f', r', re2.trans s', keep'.trans (s'.chg.keepD r2.off r2.lst), io2.trans c, q'⟩
    · intro v F' H'' σ' ρ' f' g e s' c o q'
      exact q'.elim
  · refine .inl ⟨⟨hxa, by rw [lq]; omega⟩, ?_⟩
    have g0 := L.go
    rw [List.drop_eq_nil_of_le (by omega)] at g0
    exact done Fx Hx σx ρx fx L.rep L.re L.io g0
end
end MS
namespace MS
open PySem PySem.Spec PyProof.Rows L2
section
variable {Φ : String → Spec} {X : Cx} {W : WX} {io : List Nat}
/-- .. a comprehension whose items are lists of its own -/
def bodyO (Φ : String → Spec) (t : Tg) (c e : E) (d : D) (r : Rho) (Kk : Option Ety → Rho → Prop) : Prop :=
  onO (t.bind d (clear t.slots r)) fun r1 => wpE Φ c r1 (fun v r2 => isBool v fun g => if g = true then wpE Φ e r2 (fun y r3 => y.p = .own .sh ∧ Kk (some y) r3) (fun _ _ => False) else Kk none r2) (fun _ _ => False)
structure LcInvO (K : PySem.W.Frag) (Φ : String → Spec) (t : Tg) (c e : E) (σ : L2.St) (ds : List D) (F1 : Addr → Prop) (H1 : Hp) (f1 : List Addr) (Da : Addr) (Qc : List D → Rho → Prop) (i : Nat) (F : Addr → Prop) (H : Hp) (ρ : Rho) (f : List Addr) (σx : L2.St) (acc : List D) (av : List V) (g : List Addr) : Prop where
  wp : wipe σx t.slots = wipe σ t.slots
  rep : Rep K F H σx ρ f
  at_ : H Da = some (.lst av)
  dv : OwA K F H acc.reverse (.own .sh) av g
  len : av.length ≤ i
  nf : Da ∉ f
  nF : ¬ F Da
  gn : (Da :: g).Nodup
  gf : ∀ a ∈ g, a ∉ f
  gF : ∀ a ∈ g, ¬ F a
  ge : ∀ a ∈ g, H a ≠ none
  gs : ∀ a ∈ g, a ∈ f1 ∨ H1 a = none
  re : Reach K F1 H1 f1 F H f
  keep : Keep K F1 H1 F H
  go : wpComp (bodyO Φ t c e) (ds.drop i) acc ρ Qc
theorem i_compO {i0 : Nat} {D : Ends} {t : Tg} {it : I} {c e : E} {tt : TT} (hsl : (ownT X.N t.slots).map (·.2) = t.slots) (htt : ∀ σ H Q', tTst Φ X W0 c σ H Q' → tt σ H Q') {σ : L2.St} {H0 : Hp} (hlen : σ.length = X.N.length) (hi0 : i0 < X.N.length) (hio : io.contains i0 = false) :
    tS Φ X W io (.setO i0 t it c e) D σ H0 → tLc (tIt Φ X W it) (gTg X.K t) tt (tE Φ X W0 e) ((ownT X.N t.slots).map (·.2)) σ H0 (fun v H1 => D.nx (σ.set i0 (some v)) H1) := fun ⟨F0, ρ0, f0, k, r, xo, w, KK⟩ => by
  simp only [wpS] at w
  rw [hsl]
  refine ⟨F0, ρ0, f0, _, _, r, xo.x, w, fun J F1 H1 ds ρ1 f1 fin1 wd q1 => ?_⟩
  obtain ⟨hz, q1⟩ := q1
  intro Da hDa
  have hslots : ∀ i ∈ t.slots, i < ρ1.length := fun i hi => by
    have h1 := fin1.rep.sl.length
    have hm : i ∈ (ownT X.N t.slots).map (·.2) := by rw [hsl]; exact hi
    obtain ⟨p, hp, rfl⟩ := List.mem_map.mp hm
    obtain ⟨j, hj, e⟩ := List.mem_filterMap.mp hp
    cases hn : X.N[j]? with
    | none => rw [hn] at e; cases e
    | some x =>
      rw [hn] at e
      have e : (x, j) = p := Option.some.inj e
      subst e
      have := (List.getElem?_eq_some_iff.mp hn).1
      show j < _
      omega
  refine ⟨fun i m H => m = ds.length - i ∧ i ≤ ds.length ∧ ∃ F ρ f σx acc av g, LcInvO X.K Φ t c e σ ds F1 H1 f1 Da (fun acc ρ2 => k.nx ((clear t.slots ρ2).set i0 (some ⟨.own (.own .sh), .list acc⟩))) i F H ρ f σx acc av g, ⟨ds.length, by simp, Nat.zero_le _, ?_⟩, ?_⟩
  · have cn : Chg F1 H1 F1 (upd H1 Da (.lst [])) [] := chg_new hDa
    refine ⟨F1, ρ1, f1, σ, [], [], [], rfl, fin1.rep.new cn fun a ha => cn.dom a (fin1.rep.there a ha), upd_same, OwA_nil.mpr ⟨rfl, rfl⟩, Nat.le_refl _, fun z => fin1.rep.ne z hDa, fun z => fin1.rep.there _ z hDa, by simp, by simp, by simp, by simp, by simp, Reach.refl.new cn, cn.keepD (by simp) (by simp), q1⟩
  · rintro i m H ⟨rfl, hil, F, ρ, f, σx, acc, av, g, L⟩
    have kd := wd F H L.keep i
    by_cases hlt : i < ds.length
    · refine .inr ?_
      have hdi : ds[i]? = some ds[i] := List.getElem?_eq_getElem hlt
      obtain ⟨hgo, hy⟩ := kd.2 _ hdi
      refine ⟨hgo, fun H' => ∃ F ρ f σx acc av g, LcInvO X.K Φ t c e σ ds F1 H1 f1 Da (fun acc ρ2 => k.nx ((clear t.slots ρ2).set i0 (some ⟨.own (.own .sh), .list acc⟩))) (i + 1) F H' ρ f σx acc av g, fun H' ⟨F', ρ', f', σ', acc', av', g', L'⟩ => ⟨ds.length - (i + 1), by omega, rfl, by omega, F', ρ', f', σ', acc', av', g', L'⟩, fun x H' hyl => ?_⟩
      obtain ⟨cy, dx⟩ := hy x H' hyl
      -- the turn
      have g0 := L.go
      rw [List.drop_eq_getElem_cons hlt] at g0
      unfold wpComp bodyO at g0
      obtain ⟨ρb, hb, gb⟩ := onO_some g0
      have rep' : Rep X.K F H' σx ρ f := L.rep.new cy fun a ha => cy.dom a (L.rep.there a ha)
      obtain ⟨fc, hfc, rc⟩ := rep'.clr t.slots
      have rc' : Rep X.K F H' (wipe σ t.slots) (clear t.slots ρ) fc := rc.re (by rw [L.wp, wipe_wipe])
      have lenρ : ρ.length = ρ1.length := by
        have h1 := L.rep.sl.length
        have h2 := fin1.rep.sl.length
        have h3 := congrArg List.length L.wp
        rw [wipe_length, wipe_length] at h3
        omega
      refine bind_ok rc' dx hb (fun j hj => by rw [clear_length, lenρ]; exact hslots j hj) fun σ2 f2 hf2 r2 w2 _ => ?_
      have hw2 : wipe σ2 t.slots = wipe σ t.slots := by rw [w2 _ fun _ h => h, wipe_wipe]
      refine ⟨hw2, htt σ2 H' _ ?_⟩
      refine ⟨F, ρb, f2, _, _, r2, xok_false, gb, fun b F3 H3 ρ3 f3 fin3 q3 => ?_⟩
      -- what stands at Da
      have hDa' : H' Da = some (.lst av) := cy.keep _ _ L.at_ (by simp)
      have nf2 : Da ∉ f2 := fun z => L.nf (hfc _ (hf2 _ z))
      have hDa3 : H3 Da = some (.lst av) := fin3.chg.keep _ _ hDa' nf2
      have reach2 : Reach X.K F1 H1 f1 F H' f2 := (L.re.new cy).cut fun a ha => hfc a (hf2 a ha)
      have reach3 : Reach X.K F1 H1 f1 F3 H3 f3 := reach2.trans fin3.reach
      have keepY : Keep X.K F1 H1 F H' := L.keep.trans (cy.keepD (by simp) (by simp))
      have keep3 : Keep X.K F1 H1 F3 H3 := keepY.trans (fin3.chg.keepD r2.off r2.lst)
      have gf2 : ∀ a ∈ g, a ∉ f2 := fun a ha z => L.gf a ha (hfc _ (hf2 _ z))
      have dvY : OwA X.K F H' acc.reverse (.own .sh) av g := OwA.chg cy (by simp) (by simp) _ _ _ _ (by simp) L.dv
      have dv3 : OwA X.K F3 H3 acc.reverse (.own .sh) av g := OwA.chg fin3.chg r2.off r2.lst _ _ _ _ gf2 dvY
      have geY : ∀ a ∈ g, H' a ≠ none := fun a ha => cy.dom a (L.ge a ha)
      have ge3 : ∀ a ∈ g, H3 a ≠ none := fun a ha => fin3.chg.dom a (geY a ha)
      have gf3 : ∀ a ∈ g, a ∉ f3 := fun a ha z => by
        rcases fin3.sub' _ z with y | y
        · exact gf2 a ha y
        · exact geY a ha y
      have gF3 : ∀ a ∈ g, ¬ F3 a := fun a ha z => by
        rcases fin3.chg.new _ z with y | y | y
        · exact L.gF a ha y
        · exact gf2 a ha y
        · exact geY a ha y
      have nDa3 : Da ∉ f3 := fun z => by
        rcases fin3.sub' _ z with y | y
        · exact nf2 y
        · rw [hDa'] at y; cases y
      have nF3 : ¬ F3 Da := fun z => by
        rcases fin3.chg.new _ z with y | y | y
        · exact L.nF y
        · exact nf2 y
        · rw [hDa'] at y; cases y
      cases b with
      | false => exact ⟨F3, ρ3, f3, σ2, acc, av, g, hw2, fin3.rep, hDa3, dv3, Nat.le_trans L.len (Nat.le_succ _), nDa3, nF3, L.gn, gf3, gF3, ge3, L.gs, reach3, keep3, q3⟩
      | true =>
        refine ⟨F3, ρ3, f3, _, _, fin3.rep, xok_false, q3, fun y F4 H4 e4 ρ4 f4 g4 fin4 o4 q4 => ?_⟩
        obtain ⟨hsh, q4⟩ := q4
        rw [hsh] at o4
        have gf4 : ∀ a ∈ g, a ∉ g4 ++ f4 := fun a ha z => by
          rcases fin4.sub _ z with y | y
          · exact gf3 a ha y
          · exact ge3 a ha y
        have gF4 : ∀ a ∈ g, ¬ F4 a := fun a ha z => by
          rcases fin4.chg.new _ z with y | y | y
          · exact gF3 a ha y
          · exact gf3 a ha y
          · exact ge3 a ha y
        have nDg : Da ∉ g4 := fun z => by
          rcases fin4.sub Da (List.mem_append_left _ z) with y | y
          · exact nDa3 y
          · rw [hDa3] at y; cases y
        have ap4 : ∀ a ∈ g4, a ∉ f4 := fun a ha z => (List.nodup_append.mp fin4.nd).2.2 a ha a z rfl
        have hDa4 : H4 Da = some (.lst av) := fin4.chg.keep _ _ hDa3 nDa3
        have nDa4 : Da ∉ f4 := fun z => by
          rcases fin4.sub' _ z with y | y
          · exact nDa3 y
          · rw [hDa3] at y; cases y
        have nF4 : ¬ F4 Da := fun z => by
          rcases fin4.chg.new _ z with y | y | y
          · exact nF3 y
          · exact nDa3 y
          · rw [hDa3] at y; cases y
        have cu : Chg F4 H4 F4 (upd H4 Da (.lst (av ++ [y]))) [Da] := ⟨fun _ h => h, fun _ h => .inl h, fun b o q hb => by rw [upd_ne (by simpa using hb)]; exact q, fun b q => by
          by_cases z : b = Da
          · subst z; rw [upd_same]; simp
          · rw [upd_ne z]; exact q⟩
        have offD : ∀ a ∈ [Da], ¬ F4 a := fun a ha => by
          have : a = Da := by simpa using ha
          rw [this]; exact nF4
        have lstD : ∀ a ∈ [Da], Mu H4 a := fun a ha => by
          have : a = Da := by simpa using ha
          rw [this]; exact .of hDa4
        refine ⟨av, hDa4, Nat.lt_of_lt_of_le (Nat.lt_of_le_of_lt L.len hlt) hz, F4, ρ4, f4, σ2, e4.d :: acc, av ++ [y], g ++ g4, hw2, ?_, upd_same, ?_, ?_, nDa4, nF4, ?_, ?_, ?_, ?_, ?_, ?_, ?_, q4⟩
        · exact ⟨fin4.rep.sl.chg cu offD lstD fun a ha z => nDa4 ((show a = Da by simpa using z) ▸ ha), fin4.rep.nd, fin4.rep.off, fun a ha => cu.dom a (fin4.rep.there a ha)⟩
        · rw [List.reverse_cons]
          have d4 : OwA X.K F4 H4 acc.reverse (.own .sh) av g := OwA.chg fin4.chg fin3.rep.off fin3.rep.lst _ _ _ _ gf3 dv3
          have d5 := OwA.append d4 (OwA.one o4)
          refine OwA.chg cu offD lstD _ _ _ _ (fun a ha z => ?_) d5
          have ea : a = Da := by simpa using z
          subst ea
          rcases List.mem_append.mp ha with y | y
          · exact (List.nodup_cons.mp L.gn).1 y
          · exact nDg y
        · rw [List.length_append, List.length_singleton]
          have := L.len
          omega
        · refine List.nodup_cons.mpr ⟨fun z => ?_, List.nodup_append.mpr ⟨(List.nodup_cons.mp L.gn).2, (List.nodup_append.mp fin4.nd).1, fun a ha b hb e => ?_⟩⟩
          · rcases List.mem_append.mp z with y | y
            · exact (List.nodup_cons.mp L.gn).1 y
            · exact nDg y
          · subst e
            exact gf4 a ha (List.mem_append_left _ hb)
        · intro a ha z
          rcases List.mem_append.mp ha with y | y
          · exact gf4 a y (List.mem_append_right _ z)
          · exact ap4 a y z
        · intro a ha
          rcases List.mem_append.mp ha with y | y
          · exact gF4 a y
          · exact fin4.off a y
        · intro a ha
          refine cu.dom a ?_
          rcases List.mem_append.mp ha with y | y
          · exact fin4.chg.dom a (ge3 a y)
          · exact (fin4.lst a y).ne
        · intro a ha
          rcases List.mem_append.mp ha with y | y
          · exact L.gs a y
          · rcases fin4.sub a (List.mem_append_left _ y) with u | u
            · exact reach3.sub a u
            · exact .inr (reach3.none u)
        · have r4 := reach3.trans fin4.reach
          refine ⟨r4.chg.trans cu fun b hb => ?_, r4.sub⟩
          have : b = Da := by simpa using hb
          subst this
          exact .inr hDa
        · exact (keep3.trans (fin4.chg.keepD fin3.rep.off fin3.rep.lst)).trans (cu.keepD offD lstD)
    · refine .inl ⟨kd.1 (by omega), ?_⟩
      have g0 := L.go
      rw [List.drop_eq_nil_of_le (by omega)] at g0
      obtain ⟨fc, hfc, rc⟩ := L.rep.clr t.slots
      have rc' : Rep X.K F H σ (clear t.slots ρ) fc := rc.re L.wp
      have re := (fin1.reach.trans L.re).cut hfc
      have ow : Ow X.K F H (.list acc.reverse) (.own (.own .sh)) (.ref Da) (Da :: g) := Ow_list.mpr ⟨Da, av, g, rfl, L.at_, rfl, L.dv, trivial⟩
      obtain ⟨f2, s2, r2⟩ := rc'.put (i := i0) (e := ⟨.own (.own .sh), .list acc.reverse⟩) (by
        have := rc'.sl.length
        omega) ow (List.nodup_append.mpr ⟨L.gn, rc'.nd, fun a ha b hb e => by
          subst e
          rcases List.mem_cons.mp ha with y | y
          · subst y; exact L.nf (hfc _ hb)
          · exact L.gf a y (hfc _ hb)⟩) fun a ha => by
          rcases List.mem_cons.mp ha with y | y
          · rw [y]; exact L.nF
          · exact L.gF a y
      refine KK.nx F H _ _ f2 r2 ⟨re.chg, fun a ha => ?_⟩ (Io.set hio) g0
      rcases List.mem_append.mp (s2 a ha) with y | y
      · rcases List.mem_cons.mp y with u | u
        · rw [u]; exact .inr (fin1.reach.none hDa)
        · rcases L.gs a u with v | v
          · exact fin1.reach.sub a v
          · exact .inr (fin1.reach.none v)
      · exact re.sub a y
end
end MS
namespace MS
open PySem PySem.Spec PyProof.Rows L2
section
variable {fs : Fs} {Φ : String → Spec} {X : Cx} {W : WX} {io : List Nat}
theorem GdS.tr (G : GdS fs Φ X W) {pn : List (Addr × Obj)} {xe : Value → Shared → Prop} {W' : WX} (tk : Takes (X.tr pn xe) W') (po : PassesOwn (model X.prog X.w) X.A X.env xe) : GdS fs Φ (X.tr pn xe) W' :=
  { calm := G.calm, nd := G.nd, tk := tk, hu := G.hu, blt := G.blt, exc := G.exc, fn := G.fn, kind := G.kind, fnt := G.fnt, po := po, stk := G.stk, frm := G.frm, nex := G.nex, ndg := fun h1 h2 => ⟨(G.ndg h1 h2).ok, (G.ndg h1 h2).room⟩ }
theorem GdS.suite (G : GdS fs Φ X W) (a : Addr) (pn : List (Addr × Obj)) : GdS ⟨[], fs.cls, false⟩ Φ (X.suite a pn) W0 :=
  { calm := fun h => (nomatch h), nd := G.nd, tk := takes0, hu := G.hu, blt := G.blt, exc := G.exc, fn := fun f h => (nomatch h), kind := G.kind, fnt := G.fnt, po := PassesOwn.never, stk := G.stk, frm := G.frm, nex := G.nex, ndg := fun h => (nomatch h) }
theorem st_raise {c : String} {x m : Str} {j : Nat} {p p2 pos pos2 : Pos} (G : GdS fs Φ X W) (hc : fs.calm = true) (hm : c ∈ fs.cls) (hn : c ≠ "NoDigit") (hx : x = Str.ofString c) (hg : glB X.env.scope x = true) :
    PS X (.Raise (some (.Call (.Name x p) [.Constant (.str m) j p2] [] pos)) none pos2) (tS Φ X W io (.raise c)) := by
  subst hx
  obtain ⟨C, T⟩ := G.exc.one c hm
  obtain ⟨g1, o1⟩ := glB_of hg
  refine PS.imp (ps_raise (G.calm hc) G.tk (pmk_own PySem.F.excBase_ValueError (G.exc.tx c hm hn C T.ns) T.mg T.kp (raises_own T.sub T.ty) g1 (okName_of o1).1)) fun D σ H _ ⟨F, ρ, f, k, r, xo, w, K⟩ => ?_
  simp only [wpS] at w
  exact xo ⟨c, []⟩ ρ F H σ f (.ref C) none r .refl .refl ⟨C, G.exc.all c hm, T.ns, rfl, .inl ⟨rfl, rfl⟩⟩ w
theorem st_raiseF {x : Str} {e : E} {a : Expr} {p pos pos2 : Pos} (G : GdS fs Φ X W) (hc : fs.calm = true) (hm : "NoDigit" ∈ fs.cls) (hx : x = Str.ofString "NoDigit") (hg : glB X.env.scope x = true) (h : PE X a (tE Φ X W e)) (hs : starEach [a] X.env = (false, eval a X.env) :: starEach [] X.env) :
    PS X (.Raise (some (.Call (.Name x p) [a] [] pos)) none pos2) (tS Φ X W io (.raiseF "NoDigit" "place" e)) := by
  subst hx
  obtain ⟨C, fI, fd, ps, n1, T, n2, n3, n4, n5, n6⟩ := (G.ndg hc hm).ok
  have n7 := (G.ndg hc hm).room
  obtain ⟨g1, o1⟩ := glB_of hg
  have XCx := G.exc.at_ (G.exc.all _ hm) n1
  refine PS.imp (ps_raise (G.calm hc) G.tk (pmk_oex T n3 n4 n5 n7 n6 .nil (fun _ _ _ _ _ _ _ h => h.elim) g1 XCx.mg (pa_cons h pa_nil hs) (okName_of o1).1 hs rfl)) fun D σ H _ ⟨F, ρ, f, k, r, xo, w, K⟩ => ?_
  simp only [wpS] at w
  refine ⟨F, ρ, f, _, _, r, xo.x, w, fun v F1 H1 e1 ρ1 f1 g1 fin o q => ?_⟩
  obtain ⟨i, hi, i0, i1, q⟩ := isInt_some q
  have ev := int_of o hi
  subst ev
  refine ⟨by simp, fun ad hn => ⟨ad, C, i, rfl, T, n2, upd_same, i0, i1, fun d hd hda => ?_⟩⟩
  have hd1 : H1 d = none := by rw [upd_ne hda] at hd; exact hd
  refine ⟨rfl, d, _, upd_same, by rw [upd_ne hda, upd_same], hd1, ?_⟩
  have eH : upd (del (upd (upd (upd H1 ad (exo ad C none)) d (exd d [(Str.ofString "place", .int i)])) ad (exo ad C (some d))) ad) d (.xd [(Str.ofString "place", .int i)]) = upd H1 d (.xd [(Str.ofString "place", .int i)]) := by
    funext b
    by_cases h1 : b = d
    · rw [h1, upd_same, upd_same]
    · rw [upd_ne h1, upd_ne h1]
      by_cases h2 : b = ad
      · rw [h2, del_same, hn]
      · rw [del_ne h2, upd_ne h2, upd_ne h1, upd_ne h2]
  rw [eH]
  have c1 : Chg F1 H1 F1 (upd H1 d (.xd [(Str.ofString "place", .int i)])) [] := chg_new hd1
  exact xo.x.fin fin ⟨"NoDigit", [("place", .int i)]⟩ ρ1 F1 _ f1 (.ref C) (some d) (fin.rep.new c1 fun b hb => c1.dom b (fin.rep.there b hb)) (fun b hb => .inl hb) (c1.weak (by simp))
    ⟨C, G.exc.all _ hm, n1, rfl, .inr ⟨i, d, rfl, rfl, rfl, upd_same⟩⟩ q
/-! ### try -/
/-- a name is forgotten, whatever stood there -/
theorem Rep.forget {K : PySem.W.Frag} {F : Addr → Prop} {H : Hp} {σ : L2.St} {ρ : Rho} {f : List Addr} {i : Nat} (r : Rep K F H σ ρ f) : ∃ f', (∀ a ∈ f', a ∈ f) ∧ Rep K F H (σ.set i none) (ρ.set i none) f' := by
  obtain ⟨f', s, r'⟩ := r.drop (i := i)
  by_cases hi : i < ρ.length
  · exact ⟨f', s, Slots.any r'.sl (by rw [List.getElem?_set_self hi]), r'.nd, r'.off, r'.there⟩
  · have hl := r.sl.length
    rw [List.set_eq_of_length_le (l := σ) (by omega)]
    exact ⟨f', s, r'⟩
theorem exm_x {x : Ex} {c : String} {C D : Addr} (G : Gd fs Φ X W) (hx : x.cls ∈ allC) (hc : c ∈ fs.cls) (h1 : PySem.W.nsIn X.K mainGlobals (Str.ofString x.cls) = some (some (.ref C))) (h2 : PySem.W.nsIn X.K mainGlobals (Str.ofString c) = some (some (.ref D))) :
    PySem.W.exmOne X.K (.ref C) (.ref D) = some (subX x.cls c) := (G.exc.two _ (G.exc.mem hx h1) _ hc C D h1 h2).1
theorem st_try1 {c : String} {x : Str} {b h : Ss} {body rest : List Stmt} {s0 : Stmt} {np hp pos : Pos} (G : GdS fs Φ X W) (hm : c ∈ fs.cls) (hx : x = Str.ofString c) (hg : glB X.env.scope x = true)
    (B : ∀ {pn : List (Addr × Obj)} {xe : Value → Shared → Prop} {W' : WX}, GdS fs Φ (X.tr pn xe) W' → PSs (X.tr pn xe) body (tSs Φ (X.tr pn xe) W' io b))
    (S : ∀ (a : Addr) (pn : List (Addr × Obj)), PSs (X.suite a pn) (s0 :: rest) (tSs Φ (X.suite a pn) W0 io h)) :
    PS X (.Try body [.ExceptHandler (some (.Name x np)) none (s0 :: rest) hp] [] [] pos) (tS Φ X W io (.try_ b c none h)) := by
  subst hx
  obtain ⟨D0, T⟩ := G.exc.one c hm
  obtain ⟨g1, o1⟩ := glB_of hg
  refine PS.imp (ps_try_only (tb := fun W' => tSs Φ X W' io b) (ts := fun _ _ _ => tSs Φ X W0 io h) G.stk G.frm ⟨g1, (okName_of o1).1, .inl T.mg⟩ G.tk (fun W' pn xe tk po => B (G.tr tk po)) (fun a oe cls d pn _ _ => S a ((a, oe) :: pn))) fun D σ H _ ⟨F, ρ, f, k, r, xo, w, K⟩ => ?_
  simp only [wpS] at w
  refine ⟨F, ρ, f, _, r, ?_, w, ⟨K.nx, K.bk, K.ct, K.rt⟩⟩
  intro x ρ' F' H' σ' f' cls d r' s' i' e q
  have e0 := e
  obtain ⟨C, h1, h2, rfl, h4⟩ := e
  refine ⟨subX x.cls c, exm_x G.toGd h1 hm h2 T.ns, fun z a hn => ?_, fun z => ?_⟩
  · dsimp only at q
    rw [if_pos z] at q
    refine ⟨F', ρ', f', { k with xe := fun _ _ => False }, r', fun _ _ _ _ _ _ _ _ _ _ _ _ q => q.elim, q, ⟨?_, ?_, ?_, ?_⟩⟩
    · exact fun F2 H2 σ2 ρ2 f2 r2 s2 i2 q2 => K.nx F2 H2 σ2 ρ2 f2 r2 (s'.trans s2) (i'.trans i2) q2
    · exact fun F2 H2 σ2 ρ2 f2 r2 s2 i2 q2 => K.bk F2 H2 σ2 ρ2 f2 r2 (s'.trans s2) (i'.trans i2) q2
    · exact fun F2 H2 σ2 ρ2 f2 r2 s2 i2 q2 => K.ct F2 H2 σ2 ρ2 f2 r2 (s'.trans s2) (i'.trans i2) q2
    · exact fun v F2 H2 σ2 ρ2 f2 g e2 s2 i2 o2 q2 => K.rt v F2 H2 σ2 ρ2 f2 g e2 (s'.finG s2) (i'.trans i2) o2 q2
  · dsimp only at q
    rw [z, if_neg Bool.false_ne_true] at q
    exact xo x ρ' F' H' σ' f' (.ref C) d r' s' i' e0 q
theorem st_try2 {c : String} {x n : Str} {i : Nat} {b h : Ss} {body rest : List Stmt} {s0 : Stmt} {np hp pos : Pos} (G : GdS fs Φ X W) (hm : c ∈ fs.cls) (hx : x = Str.ofString c) (hg : glB X.env.scope x = true)
    (hi : X.N[i]? = some n) (hl : X.env.scope.names.lookup n = some .local) (hio : io.contains i = false)
    (B : ∀ {pn : List (Addr × Obj)} {xe : Value → Shared → Prop} {W' : WX}, GdS fs Φ (X.tr pn xe) W' → PSs (X.tr pn xe) body (tSs Φ (X.tr pn xe) W' io b))
    (S : ∀ (a : Addr) (pn : List (Addr × Obj)), PSs (X.suite a pn) (s0 :: rest) (tSs Φ (X.suite a pn) W0 io h)) :
    PS X (.Try body [.ExceptHandler (some (.Name x np)) (some n) (s0 :: rest) hp] [] [] pos) (tS Φ X W io (.try_ b c (some i) h)) := by
  subst hx
  obtain ⟨D0, T⟩ := G.exc.one c hm
  obtain ⟨g1, o1⟩ := glB_of hg
  refine PS.imp (ps_try_pub (tb := fun W' => tSs Φ X W' io b) (ts := fun _ => tSs Φ X W0 io h) G.stk G.frm G.nex G.nd hi hl ⟨g1, (okName_of o1).1, .inl T.mg⟩ G.tk (fun W' pn xe tk po => B (G.tr tk po)) (fun a pn => S a pn)) fun D σ H hlen ⟨F, ρ, f, k, r, xo, w, K⟩ => ?_
  simp only [wpS] at w
  refine ⟨F, ρ, f, _, r, ?_, w, ⟨K.nx, K.bk, K.ct, K.rt⟩⟩
  intro x ρ' F' H' σ' f' cls d r' s' i' e q
  have e0 := e
  obtain ⟨C, h1, h2, rfl, h4⟩ := e
  refine ⟨C, subX x.cls c, rfl, exm_x G.toGd h1 hm h2 T.ns, fun z a hn => ?_, fun z => ?_⟩
  · dsimp only at q
    rw [if_pos z] at q
    obtain ⟨C2, ec, dv⟩ := dvx_new hn e0
    cases ec
    have c1 : Chg F' H' F' (upd H' a (exv a C d)) [] := chg_new hn
    have r1 := r'.new c1 fun b hb => c1.dom b (r'.there b hb)
    have hil : i < ρ'.length := by
      have h1 := r'.sl.length
      have h2 := (List.getElem?_eq_some_iff.mp hi).1
      have h3 := i'.len
      omega
    obtain ⟨f2, s2, r2⟩ := r1.put hil (e := sh (excD x)) (Ow_sh.mpr ⟨rfl, dv⟩) (by simpa using r1.nd) (by simp)
    have re : Reach X.K F H f F' (upd H' a (exv a C d)) f2 := s'.trans ⟨c1.weak (by simp), fun b hb => .inl (by simpa using s2 b hb)⟩
    have io2 : Io io σ (σ'.set i (some (.ref a))) := i'.trans (Io.set hio)
    refine ⟨F', _, f2, { nx := fun r => k.nx (r.set i none), rt := k.rt, bk := fun r => k.bk (r.set i none), ct := fun r => k.ct (r.set i none), xe := fun _ _ => False }, r2, fun _ _ _ _ _ _ _ _ _ _ _ _ q => q.elim, q, ⟨?_, ?_, ?_, ?_⟩⟩
    · intro F3 H3 σ3 ρ3 f3 r3 s3 i3 q3
      obtain ⟨f4, s4, r4⟩ := r3.forget (i := i)
      exact K.nx F3 H3 _ _ f4 r4 (re.trans (s3.cut s4)) ((io2.trans i3).trans (Io.set hio)) q3
    · intro F3 H3 σ3 ρ3 f3 r3 s3 i3 q3
      obtain ⟨f4, s4, r4⟩ := r3.forget (i := i)
      exact K.bk F3 H3 _ _ f4 r4 (re.trans (s3.cut s4)) ((io2.trans i3).trans (Io.set hio)) q3
    · intro F3 H3 σ3 ρ3 f3 r3 s3 i3 q3
      obtain ⟨f4, s4, r4⟩ := r3.forget (i := i)
      exact K.ct F3 H3 _ _ f4 r4 (re.trans (s3.cut s4)) ((io2.trans i3).trans (Io.set hio)) q3
    · exact fun v F3 H3 σ3 ρ3 f3 g e3 s3 i3 o3 q3 => K.rt v F3 H3 σ3 ρ3 f3 g e3 (re.finG s3) (io2.trans i3) o3 q3
  · dsimp only at q
    rw [z, if_neg Bool.false_ne_true] at q
    exact xo x ρ' F' H' σ' f' (.ref C) d r' s' i' e0 q
end
end MS
namespace MS
open PySem PySem.Spec PyProof.Rows L2
section
variable {fs : Fs} {Φ : String → Spec} {X : Cx} {W : WX} {io : List Nat}
theorem comp_calm {t : Tg} {it : I} {c el : E} {elt : Expr} {gs : List Comprehension} {scope : Scope} {pos : Pos} (G : Gd fs Φ X W) (h : okE fs X.N X.env.scope (.comp t it c el) (.ListComp elt gs scope pos) = true) : X.calm = true := by
  unfold okE at h; split at h <;> try contradiction
  rename_i e1 e2
  cases e1; cases e2
  simp only [Bool.and_eq_true, decide_eq_true_eq] at h
  exact G.calm h.1.1.1.1.1.1.1
theorem comp_ok {t : Tg} {it : I} {c el : E} {elt : Expr} {gs : List Comprehension} {scope : Scope} {pos : Pos} (G : Gd fs Φ X W) (h : okE fs X.N X.env.scope (.comp t it c el) (.ListComp elt gs scope pos) = true) :
    ∃ tg iter ifs tt, gs = [⟨tg, iter, ifs, 0⟩] ∧ PI X tg iter (tIt Φ X W it) ∧ BlkOk X.N X.env.scope scope (ownT X.N t.slots) ∧ (ownT X.N t.slots).map (·.2) = t.slots ∧
      (∀ (s : Shared) (H : Hp) (C : Addr) (cl : List (Str × Addr)) (fp : List Addr), PG (X.blk s H scope (compEnvC scope cl C X.env) fp) tg (gTg X.K t)) ∧
      (∀ (s : Shared) (H : Hp) (C : Addr) (cl : List (Str × Addr)) (fp : List Addr), PTs (X.blk s H scope (compEnvC scope cl C X.env) fp) ifs tt) ∧
      (∀ σ H Q', tTst Φ X W0 c σ H Q' → tt σ H Q') ∧
      (∀ (s : Shared) (H : Hp) (C : Addr) (cl : List (Str × Addr)) (fp : List Addr), PE (X.blk s H scope (compEnvC scope cl C X.env) fp) elt (tE Φ X W0 el)) ∧ (∀ x, foldedSetIterable iter X.env x = pure x) := by
  unfold okE at h; split at h <;> try contradiction
  rename_i e1 e2
  cases e1; cases e2
  simp only [Bool.and_eq_true, decide_eq_true_eq] at h
  obtain ⟨⟨⟨⟨⟨⟨⟨h0, h1⟩, h2⟩, h3⟩, h4⟩, h5⟩, h6⟩, h7⟩ := h
  subst h1
  rename_i tg iter ifs
  have hI := ok_I it G h2
  have hE : ∀ (s : Shared) (H : Hp) (C : Addr) (cl : List (Str × Addr)) (fp : List Addr), PE (X.blk s H scope (compEnvC scope cl C X.env) fp) elt (tE Φ X W0 el) := fun s H C cl fp => (ok_E el (G.blk s H scope C cl fp) h7).pe
  have hG : ∀ (s : Shared) (H : Hp) (C : Addr) (cl : List (Str × Addr)) (fp : List Addr), PG (X.blk s H scope (compEnvC scope cl C X.env) fp) tg (gTg X.K t) := fun s H C cl fp => pg_ok (X := X.blk s H scope (compEnvC scope cl C X.env) fp) (G.calm h0) G.nd (fun x z => blk_loc x z) h5
  cases ifs with
  | nil =>
    have hc : c = .bl true := by
      cases c <;> first | exact nomatch (show false = true from h6) | exact congrArg E.bl (show _ = true from h6)
    subst hc
    exact ⟨tg, iter, [], tYes, rfl, hI.1, blkOk_by h3, h4, hG, fun _ _ _ _ _ => pts_nil, fun σ H Q' z => by
      obtain ⟨F, ρ, f, Q, xe, r, x, w, k⟩ := z
      simp only [wpE] at w
      exact k true F H ρ f (.refl r) w, hE, hI.2⟩
  | cons f1 fr =>
    cases fr with
    | nil =>
      simp only [Bool.and_eq_true] at h6
      exact ⟨tg, iter, [f1], tTst Φ X W0 c, rfl, hI.1, blkOk_by h3, h4, hG, fun s H C cl fp => pts_one ((ok_E c (G.blk s H scope C cl fp) h6.2).pt h6.1), fun σ H Q' z => z, hE, hI.2⟩
    | cons _ _ => cases h6
theorem st_setC {i : Nat} {x : Str} {t : Tg} {it : I} {c el : E} {elt : Expr} {gs : List Comprehension} {scope : Scope} {px p2 pos : Pos} (G : GdS fs Φ X W) (hi : nmB X.N X.env.scope io i x = true) (h : okE fs X.N X.env.scope (.comp t it c el) (.ListComp elt gs scope p2) = true) :
    PS X (.Assign [.Name x px] (.ListComp elt gs scope p2) pos) (tS Φ X W io (.set i (.comp t it c el))) := by
  have hsw := sw_val (elt := elt) (gs := gs) (scope := scope) (pos := p2) (py := px) (y := x) (l := pos.line) G.kind
  cases hb : swB X.env.scope x px (.ListComp elt gs scope p2) with
  | false =>
    rw [hb] at hsw
    exact st_set G hi (ok_E _ G.toGd h).pe hsw
  | true =>
    rw [hb] at hsw
    obtain ⟨tg, iter, ifs, tt, rfl, k1, k2, k3, k4, k5, k6, k7, k8⟩ := comp_ok G.toGd h
    obtain ⟨h1, h2, h3, _⟩ := nm_of hi
    have hloc : X.env.scope.names.lookup x = some .local := by
      unfold swB at hb
      simp only [Bool.and_eq_true, decide_eq_true_eq] at hb
      exact hb.1.1
    exact PS.imp (ps_setLc (comp_calm G.toGd h) G.nd h2 hloc hsw k1 k2 k4 k5 k7 k8) fun D σ H hlen z => i_comp (Q' := fun v H1 => D.nx (σ.set i (some v)) H1) k3 k6 hlen (i_set h2 h1 hlen z)
theorem st_setO {i : Nat} {x : Str} {t : Tg} {it : I} {c el : E} {elt : Expr} {gs : List Comprehension} {scope : Scope} {px p2 pos : Pos} (G : GdS fs Φ X W) (hi : nmB X.N X.env.scope io i x = true) (h : okE fs X.N X.env.scope (.comp t it c el) (.ListComp elt gs scope p2) = true) :
    PS X (.Assign [.Name x px] (.ListComp elt gs scope p2) pos) (tS Φ X W io (.setO i t it c el)) := by
  have hsw := sw_val (elt := elt) (gs := gs) (scope := scope) (pos := p2) (py := px) (y := x) (l := pos.line) G.kind
  obtain ⟨tg, iter, ifs, tt, rfl, k1, k2, k3, k4, k5, k6, k7, k8⟩ := comp_ok G.toGd h
  obtain ⟨h1, h2, h3, _⟩ := nm_of hi
  have hiN : i < X.N.length := (List.getElem?_eq_some_iff.mp h2).1
  cases hb : swB X.env.scope x px (.ListComp elt [⟨tg, iter, ifs, 0⟩] scope p2) with
  | false =>
    rw [hb] at hsw
    exact PS.imp (ps_set G.nd h2 h3 (pe_lc (own := ownT X.N t.slots) (comp_calm G.toGd h) G.nd k1 k2 k4 k5 k7 k8) hsw (.inl (G.fnt x))) fun D σ H hlen z => i_compO k3 k6 hlen hiN h1 z
  | true =>
    rw [hb] at hsw
    have hloc : X.env.scope.names.lookup x = some .local := by
      unfold swB at hb
      simp only [Bool.and_eq_true, decide_eq_true_eq] at hb
      exact hb.1.1
    exact PS.imp (ps_setLc (comp_calm G.toGd h) G.nd h2 hloc hsw k1 k2 k4 k5 k7 k8) fun D σ H hlen z => i_compO k3 k6 hlen hiN h1 z
theorem sub_stores {env : Env} {a b c d : Expr} {p1 p2 pt : Pos} {k0 : Nat} {v : Expr} : swappedStores [.Tuple [.Subscript a b p1, .Subscript c d p2] k0 pt] v env = pure none := by
  cases v <;> first | rfl | skip
  unfold swappedStores
  simp only [List.length_cons, List.length_nil, List.filterMap_cons, List.filterMap_nil]
  split
  · rfl
  · split
    · rfl
    · rfl
theorem st_par {i j : Nat} {x y : Str} {a b : E} {u v : Expr} {px py pt pt2 pos : Pos} {kt k2 : Nat} (G : GdS fs Φ X W) (hcl : fs.calm = true) (hi : nmB X.N X.env.scope io i x = true) (hj : nmB X.N X.env.scope io j y = true) (hij : i ≠ j)
    (hx : X.env.scope.names.lookup x = some .local) (hy : X.env.scope.names.lookup y = some .local) (h1 : PE X u (tE Φ X W a)) (h2 : PE X v (tE Φ X W b)) (hu : notStar u = true) (hv : notStar v = true)
    (hw : swappedStores [.Tuple [.Name x px, .Name y py] kt pt] (.Tuple [u, v] k2 pt2) X.env = pure (some [x, y])) :
    PS X (.Assign [.Tuple [.Name x px, .Name y py] kt pt] (.Tuple [u, v] k2 pt2) pos) (tS Φ X W io (.par i j a b)) := by
  obtain ⟨i1, i2, i3, _⟩ := nm_of hi
  obtain ⟨j1, j2, j3, _⟩ := nm_of hj
  refine PS.imp (ps_par (G.calm hcl) G.nd i2 j2 hij hx hy (pa_cons h1 (pa_cons h2 pa_nil (star_of hv)) (star_of hu)) hw) fun D σ H hlen ⟨F, ρ, f, k, r, xo, w, K⟩ => ?_
  simp only [wpS] at w
  refine ⟨F, ρ, f, _, _, r, xo.x, w, fun v1 F1 H1 e1 ρ1 f1 g1 fin1 o1 q1 => ?_⟩
  refine ⟨F1, ρ1, f1, _, _, fin1.rep, xo.x.fin fin1, q1, fun v2 F2 H2 e2 ρ2 f2 g2 fin2 o2 q2 => ?_⟩
  have o1' : Ow X.K F2 H2 e1.d e1.p v1 g1 := Ow.chg fin2.chg fin1.rep.off fin1.rep.lst _ _ _ _ fin1.apart o1
  have ft := fin1.trans fin2
  obtain ⟨m1, m2, m3⟩ := List.nodup_append.mp ft.nd
  obtain ⟨n1, n2, n3⟩ := List.nodup_append.mp m1
  obtain ⟨f3, s3, r3⟩ := ft.rep.put (lt_of_N ft.rep hlen i2) o1' (List.nodup_append.mpr ⟨n1, m2, fun a ha b hb => m3 a (List.mem_append_left _ ha) b hb⟩) fun a ha => ft.off a (List.mem_append_left _ ha)
  obtain ⟨f4, s4, r4⟩ := r3.put (i := j) (by rw [List.length_set]; exact lt_of_N ft.rep hlen j2) o2 (List.nodup_append.mpr ⟨n2, r3.nd, fun a ha b hb e => by
    subst e
    rcases List.mem_append.mp (s3 a hb) with z | z
    · exact n3 a z a ha rfl
    · exact m3 a (List.mem_append_right _ ha) a z rfl⟩) fun a ha => ft.off a (List.mem_append_right _ ha)
  refine ⟨v1, v2, rfl, K.nx F2 H2 _ _ f4 r4 ⟨ft.chg, fun a ha => ?_⟩ ((Io.set i1).trans (Io.set j1)) q2⟩
  rcases List.mem_append.mp (s4 a ha) with z | z
  · exact ft.sub a (List.mem_append_left _ (List.mem_append_right _ z))
  · rcases List.mem_append.mp (s3 a z) with z | z
    · exact ft.sub a (List.mem_append_left _ (List.mem_append_left _ z))
    · exact ft.sub a (List.mem_append_right _ z)
theorem sw_none {x : Expr} {l : Nat} (h : isComp2 x = false) (h2 : isLc x = false) : swapsWith x none l X.env = pure false := by
  cases x <;> first | rfl | exact Bool.noConfusion (show true = false from h) | exact Bool.noConfusion (show true = false from h2)
theorem sw_name {x : Expr} {y : Str} {py : Pos} {l : Nat} (h : isComp2 x = false) (h2 : isLc x = false) : swapsWith x (some (.Name y py)) l X.env = pure false := by
  cases x <;> first | rfl | exact Bool.noConfusion (show true = false from h) | exact Bool.noConfusion (show true = false from h2)
theorem ok_DS : ∀ {o : DS} {u e : E} {b : Ss} {io : List Nat} {fs : Fs} {X : Cx} {W : WX} {st : Stmt} (G : GdS fs Φ X W), dsOk X.N X.env.scope fs io o st (fun y => okE fs X.N X.env.scope u y) (fun y => okE fs X.N X.env.scope e y) (fun io' sts => okSs X.N X.env.scope io' fs b sts) = true → (∀ y, okE fs X.N X.env.scope u y = true → SE Φ X W u y) → (∀ y, okE fs X.N X.env.scope e y = true → SE Φ X W e y) → (∀ io' sts, okSs X.N X.env.scope io' fs b sts = true → PSs X sts (tSs Φ X W io' b)) → PS X st (tS Φ X W io (.dst o u e b))
  | .forI n r, u, e, b, io, fs, X, W, st, G, h, hu, he, hb => by
    unfold dsOk at h; split at h <;> first | contradiction | skip
    rename_i heq; cases heq
    simp only [Bool.and_eq_true, decide_eq_true_eq, Bool.not_eq_true'] at h
    obtain ⟨⟨⟨⟨⟨⟨⟨h0, h1⟩, h2⟩, h3⟩, h4⟩, h5⟩, h6⟩, h7⟩ := h
    exact st_forI G h0 h1 h2 h3 h4 h5 (hu _ h6).pe (hb _ _ h7)
  | .setd i, u, e, b, io, fs, X, W, st, G, h, hu, he, hb => by
    unfold dsOk at h; split at h <;> first | contradiction | skip
    rename_i heq; cases heq
    simp only [Bool.and_eq_true, Bool.not_eq_true'] at h
    obtain ⟨⟨⟨⟨h1, h2⟩, h3⟩, h4⟩, h5⟩ := h
    exact st_setd (by have := G.toGd.hu; omega) h1 (hu _ h4).pe (he _ h5).pe h2 h3
  | .swpd i a b, u, e, zb, io, fs, X, W, st, G, h, hu, he, hb => by
    unfold dsOk at h; split at h <;> first | contradiction | skip
    rename_i heq; cases heq
    simp only [Bool.and_eq_true, decide_eq_true_eq] at h
    obtain ⟨⟨⟨⟨⟨⟨⟨⟨h0, h1⟩, h2⟩, h3⟩, h4⟩, h5⟩, h6⟩, h7⟩, h8⟩ := h
    subst h2 h3 h4
    exact st_swpd (by have := G.toGd.hu; omega) (G.calm h0) h1 h5 h6 h7 h8 sub_stores
  | .swpl i a b, u, e, zb, io, fs, X, W, st, G, h, hu, he, hb => by
    unfold dsOk at h; split at h <;> first | contradiction | skip
    rename_i heq; cases heq
    simp only [Bool.and_eq_true, decide_eq_true_eq] at h
    obtain ⟨⟨⟨⟨⟨⟨⟨⟨h0, h1⟩, h2⟩, h3⟩, h4⟩, h5⟩, h6⟩, h7⟩, h8⟩ := h
    subst h2 h3 h4
    exact st_swpl (G.calm h0) h1 h5 h6 h7 h8 sub_stores
  | .ins i a, u, e, b, io, fs, X, W, st, G, h, hu, he, hb => by
    unfold dsOk at h; split at h <;> first | contradiction | skip
    rename_i heq; cases heq
    simp only [Bool.and_eq_true, decide_eq_true_eq] at h
    obtain ⟨⟨⟨⟨⟨⟨h1, h2⟩, h3⟩, h4⟩, h5⟩, h6⟩, h7⟩ := h
    exact st_ins h1 h2 h3 h4 (star_of h5) (star_of h6) (he _ h7).pe
  | .setsl i lo hi, u, e, b, io, fs, X, W, st, G, h, hu, he, hb => by
    unfold dsOk at h; split at h <;> first | contradiction | skip
    rename_i heq; cases heq
    simp only [Bool.and_eq_true, Bool.not_eq_true'] at h
    obtain ⟨⟨⟨⟨h1, h2⟩, h3⟩, h4⟩, h5⟩ := h
    exact st_setsl h1 h2 h3 h4 (he _ h5).pe
  | .setdO i a, u, e, b, io, fs, X, W, st, G, h, hu, he, hb => by
    unfold dsOk at h; split at h <;> first | contradiction | skip
    rename_i heq; cases heq
    simp only [Bool.and_eq_true] at h
    exact st_setdO (by have := G.toGd.hu; omega) h.1 h.2
  | .appd i a e, u, ze, b, io, fs, X, W, st, G, h, hu, he, hb => by
    unfold dsOk at h; split at h <;> first | contradiction | skip
    rename_i heq; cases heq
    simp only [Bool.and_eq_true, decide_eq_true_eq] at h
    obtain ⟨⟨⟨⟨⟨h1, h2⟩, h3⟩, h4⟩, h5⟩, h6⟩ := h
    exact st_appd (by have := G.toGd.hu; omega) h1 h2 h3 h4 h5 (star_of h6)
  | .forD i n r, u, e, b, io, fs, X, W, st, G, h, hu, he, hb => by
    unfold dsOk at h; split at h <;> first | contradiction | skip
    rename_i heq; cases heq
    simp only [Bool.and_eq_true, decide_eq_true_eq] at h
    obtain ⟨⟨⟨⟨⟨⟨⟨h0, h1⟩, h2⟩, h3⟩, h4⟩, h5⟩, h6⟩, h7⟩ := h
    subst h2 h3
    exact st_forD G h0 h1 h4 h5 h6 (hb _ _ h7)
mutual
theorem ok_S : ∀ (s : S) {io : List Nat} {fs : Fs} {X : Cx} {W : WX} {st : Stmt}, GdS fs Φ X W → okS X.N X.env.scope io fs s st = true → PS X st (tS Φ X W io s)
  | .never, io, fs, X, W, st, G, h => st_never
  | .pass, io, fs, X, W, st, G, h => by
    unfold okS at h; split at h <;> first | contradiction | skip
    · exact st_pass ps_doc
    · exact st_pass ps_pass
  | .brk, io, fs, X, W, st, G, h => by
    unfold okS at h; split at h <;> first | contradiction | skip
    · exact st_brk
  | .cont, io, fs, X, W, st, G, h => by
    unfold okS at h; split at h <;> first | contradiction | skip
    · exact st_cont
  | .retN, io, fs, X, W, st, G, h => by
    unfold okS at h; split at h <;> first | contradiction | skip
    · exact st_retN
  | .ret e, io, fs, X, W, st, G, h => by
    unfold okS at h; split at h <;> first | contradiction | skip
    rename_i heq; cases heq
    exact st_ret (ok_E e G.toGd h).pe
  | .expr e, io, fs, X, W, st, G, h => by
    unfold okS at h; split at h <;> first | contradiction | skip
    rename_i heq; cases heq
    simp only [Bool.and_eq_true, Bool.not_eq_true'] at h
    exact st_expr (ok_E e G.toGd h.2).pe (sw_none h.1.1 h.1.2)
  | .set i e, io, fs, X, W, st, G, h => by
    unfold okS at h; split at h <;> first | contradiction | skip
    rename_i heq; cases heq
    simp only [Bool.and_eq_true, Bool.not_eq_true', Bool.or_eq_true] at h
    obtain ⟨⟨⟨h1, h2⟩, h3⟩, h4⟩ := h
    rename_i x px v pos
    cases hl : isLc v with
    | false => exact st_set G h1 (ok_E e G.toGd h4).pe (sw_name h2 hl)
    | true =>
      have hc : isC e = true := by
        rcases h3 with z | z
        · exact z
        · rw [hl] at z; cases z
      cases e <;> first | exact Bool.noConfusion (show false = true from hc) | skip
      cases v <;> first | exact Bool.noConfusion (show false = true from hl) | skip
      exact st_setC G h1 h4
  | .unp is e, io, fs, X, W, st, G, h => by
    unfold okS at h; split at h <;> first | contradiction | skip
    rename_i heq; cases heq
    simp only [Bool.and_eq_true, Bool.not_eq_true'] at h
    obtain ⟨⟨⟨⟨⟨h0, h1⟩, h2⟩, h3⟩, h4⟩, h5⟩ := h
    exact st_unp G h0 (by simpa using h1) h2 h3 h4 (ok_E e G.toGd h5).pe
  | .par i j a b, io, fs, X, W, st, G, h => by
    unfold okS at h; split at h <;> first | contradiction | skip
    rename_i heq; cases heq
    simp only [Bool.and_eq_true, Bool.not_eq_true', decide_eq_true_eq] at h
    obtain ⟨⟨⟨⟨⟨⟨⟨⟨⟨⟨⟨⟨⟨h0, h1⟩, h2⟩, h3⟩, h4⟩, h5⟩, h6⟩, h7⟩, h8⟩, h9⟩, ha⟩, hb⟩, hc⟩, hd⟩ := h
    exact st_par G h0 h1 h2 h3 h5 h6 (ok_E a G.toGd hc).pe (ok_E b G.toGd hd).pe ha hb (par_stores G.kind h5 h6 h4 h7 ha hb h8 h9)
  | .aug i o e, io, fs, X, W, st, G, h => by
    unfold okS at h; split at h <;> first | contradiction | skip
    rename_i heq; cases heq
    simp only [Bool.and_eq_true, decide_eq_true_eq] at h
    exact st_aug G h.1.1 (aug_ok h.1.2) (ok_E e G.toGd h.2).pe
  | .app i e, io, fs, X, W, st, G, h => by
    unfold okS at h; split at h <;> first | contradiction | skip
    rename_i heq; cases heq
    simp only [Bool.and_eq_true, decide_eq_true_eq] at h
    obtain ⟨⟨⟨⟨h1, h2⟩, h3⟩, h4⟩, h5⟩ := h
    exact st_app h1 h2 h3 (ok_E e G.toGd h5).pe (star_of h4)
  | .ext i e, io, fs, X, W, st, G, h => by
    unfold okS at h; split at h <;> first | contradiction | skip
    rename_i heq; cases heq
    simp only [Bool.and_eq_true, decide_eq_true_eq] at h
    obtain ⟨⟨⟨⟨h1, h2⟩, h3⟩, h4⟩, h5⟩ := h
    exact st_ext h1 h2 h3 (ok_E e G.toGd h5).pe (star_of h4)
  | .rvs i, io, fs, X, W, st, G, h => by
    unfold okS at h; split at h <;> first | contradiction | skip
    rename_i heq; cases heq
    simp only [Bool.and_eq_true, decide_eq_true_eq] at h
    exact st_rvs h.1.1 h.1.2 h.2
  | .clr i, io, fs, X, W, st, G, h => by
    unfold okS at h; split at h <;> first | contradiction | skip
    rename_i heq; cases heq
    simp only [Bool.and_eq_true, decide_eq_true_eq] at h
    exact st_clr h.1.1 h.1.2 h.2
  | .setix i k e, io, fs, X, W, st, G, h => by
    unfold okS at h; split at h <;> first | contradiction | skip
    rename_i heq; cases heq
    simp only [Bool.and_eq_true, Bool.not_eq_true'] at h
    obtain ⟨⟨⟨⟨h1, h2⟩, h3⟩, h4⟩, h5⟩ := h
    exact st_setix h1 (ok_E k G.toGd h4).pe (ok_E e G.toGd h5).pe h2 h3
  | .ife c a b, io, fs, X, W, st, G, h => by
    unfold okS at h; split at h <;> first | contradiction | skip
    rename_i heq; cases heq
    simp only [Bool.and_eq_true] at h
    obtain ⟨⟨⟨h1, h2⟩, h3⟩, h4⟩ := h
    exact st_ife ((ok_E c G.toGd h2).pt h1) (ok_Ss a G h3) (ok_Ss b G h4)
  | .for_ t it b, io, fs, X, W, st, G, h => by
    unfold okS at h; split at h <;> first | contradiction | skip
    rename_i heq; cases heq
    simp only [Bool.and_eq_true] at h
    obtain ⟨⟨⟨⟨h0, h1⟩, h2⟩, h3⟩, h4⟩ := h
    have hI := ok_I it G.toGd h1
    exact st_for G h0 hI.1 hI.2 h2 h3 (ok_Ss b G h4)
  | .forA s i j e b, io, fs, X, W, st, G, h => by
    unfold okS at h; split at h <;> first | contradiction | skip
    rename_i heq; cases heq
    simp only [Bool.and_eq_true, Bool.not_eq_true', decide_eq_true_eq] at h
    obtain ⟨⟨⟨⟨⟨⟨⟨⟨⟨h0, h1⟩, h2⟩, h3⟩, h4⟩, h5⟩, h6⟩, h7⟩, h8⟩, h9⟩ := h
    exact st_lend G h0 h1 h2 h3 h4 h5 h6 h7 (ok_E e G.toGd h8).pe (ok_Ss b G h9)
  | .whl c b, io, fs, X, W, st, G, h => by
    unfold okS at h; split at h <;> first | contradiction | skip
    rename_i heq; cases heq
    simp only [Bool.and_eq_true] at h
    obtain ⟨⟨h1, h2⟩, h3⟩ := h
    exact st_whl G ((ok_E c G.toGd h2).pt h1) (ok_Ss b G h3)
  | .setO i t it c e, io, fs, X, W, st, G, h => by
    unfold okS at h; split at h <;> first | contradiction | skip
    rename_i heq; cases heq
    simp only [Bool.and_eq_true] at h
    exact st_setO G h.1 h.2
  | .swp1 i a b c, io, fs, X, W, st, G, h => by
    unfold okS at h; split at h <;> first | contradiction | skip
    rename_i heq; cases heq
    simp only [Bool.and_eq_true, decide_eq_true_eq] at h
    obtain ⟨⟨⟨⟨⟨⟨⟨⟨⟨⟨⟨⟨h0, h1⟩, h2⟩, h3⟩, h4⟩, h5⟩, h6⟩, h7⟩, h8⟩, h9⟩, ha⟩, hb⟩, hc⟩ := h
    subst h2 h3 h4
    exact st_swp1 (G.calm h0) h1 h5 h6 h7 h8 h9 ha hb hc sub_stores
  | .app1 i a e, io, fs, X, W, st, G, h => by
    unfold okS at h; split at h <;> first | contradiction | skip
    rename_i heq; cases heq
    simp only [Bool.and_eq_true, decide_eq_true_eq] at h
    obtain ⟨⟨⟨⟨⟨h1, h2⟩, h3⟩, h4⟩, h5⟩, h6⟩ := h
    exact st_app1 h1 h2 h3 h4 h5 (star_of h6)
  | .extT i e, io, fs, X, W, st, G, h => by
    unfold okS at h; split at h <;> first | contradiction | skip
    rename_i heq; cases heq
    simp only [Bool.and_eq_true, decide_eq_true_eq] at h
    obtain ⟨⟨⟨⟨h1, h2⟩, h3⟩, h4⟩, h5⟩ := h
    exact st_extT h1 h2 h3 (ok_E e G.toGd h5).pe (star_of h4)
  | .setk i j e, io, fs, X, W, st, G, h => by
    unfold okS at h; split at h <;> first | contradiction | skip
    rename_i heq; cases heq
    simp only [Bool.and_eq_true, Bool.not_eq_true'] at h
    obtain ⟨⟨⟨h1, h2⟩, h3⟩, h5⟩ := h
    exact st_setk (by have := G.toGd.hu; omega) h1 h2 (ok_E e G.toGd h5).pe h3
  | .dst o u e b, io, fs, X, W, st, G, h => ok_DS G (by simpa only [okS] using h) (fun y hy => ok_E u G.toGd hy) (fun y hy => ok_E e G.toGd hy) (fun io' sts hs => ok_Ss b G hs)
  | .setix1 i a b e, io, fs, X, W, st, G, h => by
    unfold okS at h; split at h <;> first | contradiction | skip
    rename_i heq; cases heq
    simp only [Bool.and_eq_true, Bool.not_eq_true'] at h
    obtain ⟨⟨⟨⟨h1, h2⟩, h3⟩, h4⟩, h5⟩ := h
    exact st_setix1 h1 h2 h3 (ok_E e G.toGd h5).pe h4
  | .raise c, io, fs, X, W, st, G, h => by
    unfold okS at h; split at h <;> first | contradiction | skip
    rename_i heq; cases heq
    simp only [Bool.and_eq_true, decide_eq_true_eq, bne_iff_ne, List.contains_iff_mem] at h
    obtain ⟨⟨⟨⟨h1, h2⟩, h3⟩, h4⟩, h5⟩ := h
    exact st_raise G h1 h2 h3 h4 h5
  | .raiseF c n e, io, fs, X, W, st, G, h => by
    unfold okS at h; split at h <;> first | contradiction | skip
    rename_i heq; cases heq
    simp only [Bool.and_eq_true, decide_eq_true_eq, beq_iff_eq, List.contains_iff_mem] at h
    obtain ⟨⟨⟨⟨⟨⟨⟨h1, h2⟩, h3⟩, h4⟩, h5⟩, h6⟩, h7⟩, h8⟩ := h
    subst h3 h4
    exact st_raiseF G h1 h2 h5 h6 (ok_E e G.toGd h8).pe (star_of h7)
  | .try_ b c none hd, io, fs, X, W, st, G, h => by
    unfold okS at h; split at h <;> first | contradiction | skip
    all_goals (rename_i heq; cases heq)
    simp only [Bool.and_eq_true, decide_eq_true_eq, List.contains_iff_mem] at h
    obtain ⟨⟨⟨⟨⟨h1, h2⟩, h3⟩, h4⟩, h5⟩, h6⟩ := h
    exact st_try1 G h2 h3 h4 (fun G' => ok_Ss b G' h5) (fun a pn => ok_Ss hd (G.suite a pn) h6)
  | .try_ b c (some i) hd, io, fs, X, W, st, G, h => by
    unfold okS at h; split at h <;> first | contradiction | skip
    all_goals (rename_i heq; cases heq)
    simp only [Bool.and_eq_true, decide_eq_true_eq, List.contains_iff_mem, Bool.not_eq_true'] at h
    obtain ⟨⟨⟨⟨⟨⟨⟨⟨h1, h2⟩, h3⟩, h4⟩, h5⟩, h6⟩, h7⟩, h8⟩, h9⟩ := h
    exact st_try2 G h2 h3 h4 h5 h6 h7 (fun G' => ok_Ss b G' h8) (fun a pn => ok_Ss hd (G.suite a pn) h9)
theorem ok_Ss : ∀ (s : Ss) {io : List Nat} {fs : Fs} {X : Cx} {W : WX} {sts : List Stmt}, GdS fs Φ X W → okSs X.N X.env.scope io fs s sts = true → PSs X sts (tSs Φ X W io s)
  | .nil, io, fs, X, W, sts, G, h => by
    unfold okSs at h; split at h <;> first | contradiction | skip
    exact ss_nil
  | .cons s ss, io, fs, X, W, sts, G, h => by
    unfold okSs at h; split at h <;> first | contradiction | skip
    rename_i heq; cases heq
    simp only [Bool.and_eq_true] at h
    exact ss_cons (ok_S s G h.1) (ok_Ss ss G h.2)
end
end
end MS
namespace MS
open PySem PySem.Spec PyProof.Rows L2
/-! ### a def's promise from its core text -/
theorem slots_more {K : PySem.W.Frag} {F : Addr → Prop} {H : Hp} (n : Nat) : ∀ {σ : L2.St} {ρ : Rho} {f : List Addr}, Slots K F H σ ρ f → Slots K F H (σ ++ List.replicate n none) (ρ ++ List.replicate n none) f
  | [], [], f, h => by
    have e : f = [] := h
    subst e
    have go : ∀ n : Nat, Slots K F H (List.replicate n none) (List.replicate n none) [] := by
      intro n
      induction n with
      | zero => rfl
      | succ n ih => exact ⟨[], [], rfl, rfl, ih⟩
    exact go n
  | o :: σ, e :: ρ, f, h => by
    obtain ⟨f1, f2, rfl, h1, h2⟩ := h
    exact ⟨f1, f2, rfl, h1, slots_more n h2⟩
  | [], _ :: _, _, h => h.elim
  | _ :: _, [], _, h => h.elim
def ioOf (ios : List Bool) : List Nat := (List.range ios.length).filter fun i => ios[i]? == some true
theorem mem_ioOf {ios : List Bool} {i : Nat} (h : ios[i]? = some true) : i ∈ ioOf ios := by
  unfold ioOf
  rw [List.mem_filter]
  refine ⟨List.mem_range.mpr (List.getElem?_eq_some_iff.mp h).1, by rw [h]; rfl⟩
theorem outs_ok {K : PySem.W.Frag} {F : Addr → Prop} {H : Hp} : ∀ {ios : List Bool} {es : List Ety} {ρ : Rho} {os : List D} {σ : L2.St} {vs : List V} {f : List Addr}, outsOf ios es ρ = some os → Slots K F H σ ρ f → vs.length = es.length → (∀ i : Nat, ios[i]? = some true → σ[i]? = (vs.map some)[i]?) →
    ∃ es' f', outE ios es os = some es' ∧ Slots K F H (vs.map some) es' f' ∧ f'.Sublist f
  | [], [], ρ, os, σ, vs, f, h, s, hl, hi => by
    have e : some [] = some os := h
    cases e
    cases vs with
    | nil => exact ⟨[], [], rfl, rfl, List.nil_sublist _⟩
    | cons v vs => simp at hl
  | true :: bs, e :: es, [], os, σ, vs, f, h, s, hl, hi => by simp [outsOf] at h
  | true :: bs, e :: es, none :: ρ, os, σ, vs, f, h, s, hl, hi => by simp [outsOf] at h
  | true :: bs, e :: es, some e' :: ρ, os, σ, vs, f, h, s, hl, hi => by
    cases σ with
    | nil => exact s.elim
    | cons o σ =>
      cases vs with
      | nil => simp at hl
      | cons v vs =>
        obtain ⟨f1, f2, rfl, ⟨v', rfl, h1⟩, h2⟩ := s
        unfold outsOf at h
        split at h
        · rename_i hp
          cases hr : outsOf bs es ρ with
          | none => rw [hr] at h; cases h
          | some os' =>
            rw [hr] at h
            have h : e'.d :: os' = os := Option.some.inj h
            subst h
            obtain ⟨es', f', k1, k2, k3⟩ := outs_ok hr h2 (by simpa using hl) fun i hi' => by simpa using hi (i + 1) (by simpa using hi')
            have ev : v' = v := by simpa using hi 0 rfl
            subst ev
            refine ⟨some ⟨e.p, e'.d⟩ :: es', f1 ++ f', ?_, ⟨f1, f', rfl, ⟨v', rfl, ?_⟩, k2⟩, List.Sublist.append (List.Sublist.refl _) k3⟩
            · show (outE bs es os').map _ = _
              rw [k1]; rfl
            · show Ow K F H e'.d e.p v' f1
              rw [hp]; exact h1
        · cases h
  | false :: bs, e :: es, [], os, σ, vs, f, h, s, hl, hi => by simp [outsOf] at h
  | false :: bs, e :: es, e' :: ρ, os, σ, vs, f, h, s, hl, hi => by
    cases σ with
    | nil => exact s.elim
    | cons o σ =>
      cases vs with
      | nil => simp at hl
      | cons v vs =>
        obtain ⟨f1, f2, rfl, h1, h2⟩ := s
        have h : outsOf bs es ρ = some os := h
        obtain ⟨es', f', k1, k2, k3⟩ := outs_ok h h2 (by simpa using hl) fun i hi' => by simpa using hi (i + 1) (by simpa using hi')
        refine ⟨none :: es', f', ?_, ⟨[], f', rfl, rfl, k2⟩, k3.trans (List.sublist_append_right _ _)⟩
        show (outE bs es os).map _ = _
        rw [k1]; rfl
  | [], _ :: _, ρ, os, σ, vs, f, h, s, hl, hi => by simp [outsOf] at h
  | true :: _, [], ρ, os, σ, vs, f, h, s, hl, hi => by simp [outsOf] at h
  | false :: _, [], ρ, os, σ, vs, f, h, s, hl, hi => by simp [outsOf] at h
/-- what is asked of the def's text -/
def okDef (fs : Fs) (N : List Str) (d : Def) (st : Stmt) : Bool :=
  (match (defScope st).kind with | .function => true | _ => false) && !(defScope st).isCoroutine && !(defScope st).isGenerator && decide N.Nodup && decide (N.length = d.n) && decide (d.np ≤ d.n) &&
  ((N.take d.np).all fun x => locB (defScope st) x) && ((defScope st).names.all fun y => decide (y.2 ≠ .free)) && decide (d.ios.length = d.np) && okSs N (defScope st) (ioOf d.ios) fs d.body (defBody st)
theorem okDef_scope {fs : Fs} {N : List Str} {d : Def} {st : Stmt} (h : okDef fs N d st = true) : FnScope N (N.take d.np) (defScope st) := by
  unfold okDef at h
  simp only [Bool.and_eq_true, Bool.not_eq_true', decide_eq_true_eq, List.all_eq_true] at h
  obtain ⟨⟨⟨⟨⟨⟨⟨⟨⟨h1, h2⟩, h3⟩, h4⟩, h5⟩, h6⟩, h7⟩, h8⟩, h9⟩, ha⟩ := h
  refine ⟨?_, h2, h3, h4, ?_, fun x hx => ?_, h8⟩
  · split at h1
    · assumption
    · cases h1
  · rw [List.length_take, Nat.min_eq_left (by omega)]
  · rcases loc_of (h7 x hx) with z | z
    · exact .inl z
    · exact .inr z
/-- a callee -/
def Cal (P : Program) (w : World) (K : PySem.W.Frag) (mg : Str → Option Value) (base : Heap) (k : Nat) (Φ : String → Spec) (f : String) : Prop :=
  ∃ (a : Addr) (fd : FuncData) (n : Nat) (ps : List Str), mg (Str.ofString f) = some (.ref a) ∧ PySem.W.nsIn K mainGlobals (Str.ofString f) = some (some (.ref a)) ∧ PySem.W.keepIn K (.ref a) = true ∧ Binds K fd ps [] ∧ (∀ ios es Q xe, Φ f ios es Q xe → es.length = n) ∧ FnOk P w K mg base (L2.CX P w) k a fd ps (spOf K mg n (Φ f))
theorem def_ok {P : Program} {w : World} {K : PySem.W.Frag} {mg : Str → Option Value} {base : Heap} {x qual : Str} {st : Stmt} {f : Addr} {fd : FuncData} {N : List Str} {d : Def} {fs : Fs} {Φ : String → Spec} {k : Nat}
    (Fu : Fun K x qual st f fd) (hD : okDef fs N d st = true) (hb : ∀ s ∈ blts, mg (Str.ofString s) = none) (hcl : fs.calm = true) (hk : 2 ≤ k) (hx : ExcOk K mg fs.cls) (hnd : "NoDigit" ∈ fs.cls → NdF P w K mg base) (hc : ∀ g ∈ fs.defs, Cal P w K mg base k Φ g) : FnOk P w K mg base (L2.CX P w) (k + 1) f fd (N.take d.np) (spOf K mg d.np (Def.wp Φ d)) := by
  have S := okDef_scope hD
  have hlen : N.length = d.n ∧ d.np ≤ d.n ∧ d.ios.length = d.np ∧ okSs N (defScope st) (ioOf d.ios) fs d.body (defBody st) = true := by
    unfold okDef at hD
    simp only [Bool.and_eq_true, decide_eq_true_eq] at hD
    obtain ⟨⟨⟨⟨⟨⟨⟨⟨⟨h1, h2⟩, h3⟩, h4⟩, h5⟩, h6⟩, h7⟩, h8⟩, h9⟩, ha⟩ := hD
    exact ⟨h5, h6, h9, ha⟩
  obtain ⟨l1, l2, l3, hok⟩ := hlen
  have lps : (N.take d.np).length = d.np := by rw [List.length_take, Nat.min_eq_left (by omega)]
  refine Fu.okX S (fun vs H Q E h => by rw [lps]; exact h.1) fun cdv A outer s H vs Q E hr hsp => ?_
  obtain ⟨hvl, F, es, ff, ios, Q0, xe0, rep, ⟨hio, hel, hw⟩, hQ, hX⟩ := hsp
  have G : GdS fs Φ (cxOf (L2.CX P w) P w K mg base N qual (defScope st) f cdv A outer s H E) (fun cls dd _ H' => E cls dd H') := {
    calm := fun _ => rfl
    exc := hx
    stk := rfl
    frm := rfl
    nex := rfl
    ndg := fun _ h => ⟨hnd h, hr.mono hk⟩
    nd := S.nd
    tk := takes_of rfl rfl rfl rfl
    hu := by
      have := hr.un
      show (A.deeper (envOfC qual (defScope st) s.heap.objs.size f cdv)).units + 65 < cLine
      omega
    blt := hb
    fn := fun g hg => by
      obtain ⟨a, fd', n, ps, h1, h0, h2, h3, h4, h5⟩ := hc g hg
      exact ⟨a, fd', k, n, ps, h1, h0, h2, h3, h4, hr, h5⟩
    kind := S.kind
    fnt := fun _ => rfl
    po := passes_of rfl }
  refine ⟨_, ok_Ss (io := ioOf d.ios) d.body G hok, ?_⟩
  have hst : L2.start N vs = vs.map some ++ List.replicate (d.n - d.np) none := by unfold L2.start; rw [l1, hvl]
  rw [hst]
  refine ⟨F, _, ff, _, ⟨slots_more _ rep.sl, rep.nd, rep.off, rep.there⟩, ?_, hw, ?_⟩
  · intro y ρ' F' H' σ' f' cls dd r' s' c e q
    exact hX y F' H' cls dd s'.chg r'.there e q
  · have fin : ∀ (v : V) (F' : Addr → Prop) (H' : Hp) (σ' : L2.St) (ρ' : Rho) (f' g : List Addr) (e : Ety), FinG K F H σ' ff F' H' ρ' f' g → Io (ioOf d.ios) (vs.map some ++ List.replicate (d.n - d.np) none) σ' → Ow K F' H' e.d e.p v g → onO (outsOf ios es ρ') (fun os => Q0 e os) → Q v H' := by
      intro v F' H' σ' ρ' f' g e fi io o q
      obtain ⟨os, ho, q⟩ := onO_some q
      obtain ⟨es', f'', k1, k2, k3⟩ := outs_ok (vs := vs) ho fi.rep.sl (by rw [hvl, hel]) fun i hi => by
        rw [io.eq i (mem_ioOf (okIo_get hio hi))]
        have : i < (vs.map some).length := by
          have := (List.getElem?_eq_some_iff.mp hi).1
          have := okIo_len hio
          rw [List.length_map]; omega
        rw [List.getElem?_append_left this]
      have sub : ∀ a ∈ g ++ f'', a ∈ g ++ f' := fun a ha => by
        rcases List.mem_append.mp ha with z | z
        · exact List.mem_append_left _ z
        · exact List.mem_append_right _ (k3.subset z)
      exact hQ e os es' F' H' f'' g v k1 ⟨k2, fi.rep.nd.sublist k3, fun a ha => fi.rep.off a (k3.subset ha), fi.rep.there⟩ (fi.nd.sublist (List.Sublist.append (List.Sublist.refl _) k3)) fi.off (fun a ha => fi.sub a (sub a ha)) o fi.chg q
    refine ⟨fun F' H' σ' ρ' f' r' s' io q => ?_, fun _ _ _ _ _ _ _ _ q => q.elim, fun _ _ _ _ _ _ _ _ q => q.elim, fun v F' H' σ' ρ' f' g e fi io o q => fin v F' H' σ' ρ' f' g e fi io o q⟩
    exact fin .non F' H' σ' ρ' f' [] (sh .none) (s'.fin r') io (Ow_sh.mpr ⟨rfl, dv_non⟩) q
/-! ### a program: defs that call one another -/
structure PD where
  nm : String
  dn : String
  d : Def
  N : List Str
  st : Stmt
def PD.ps (p : PD) : List Str := p.N.take p.d.np
def pick (T : List PD) (f : String) : Option PD := T.find? fun p => p.nm == f
def Phi (T : List PD) : Nat → String → Spec
  | 0, _ => fun _ _ _ _ => False
  | n + 1, f => match pick T f with
    | some p => Def.wp (Phi T n) p.d
    | none => fun _ _ _ _ => False
theorem Phi_len {T : List PD} {f : String} {p : PD} (h : pick T f = some p) : ∀ (n : Nat) (ios : List Bool) (es : List Ety) (Q : Ety → List D → Prop) (xe : Ex → Prop), Phi T n f ios es Q xe → es.length = p.d.np
  | 0, _, _, _, _, q => q.elim
  | n + 1, ios, es, Q, xe, q => by
    unfold Phi at q
    rw [h] at q
    exact q.2.1
theorem Phi_succ {T : List PD} {f : String} {p : PD} (h : pick T f = some p) (n : Nat) : Phi T (n + 1) f = Def.wp (Phi T n) p.d := by
  show (match pick T f with | some p => Def.wp (Phi T n) p.d | none => fun _ _ _ _ => False) = _
  rw [h]
/-- a def as it stands behind the top -/
def There (K : PySem.W.Frag) (mg : Str → Option Value) (p : PD) : Prop :=
  ∃ (a : Addr) (fd : FuncData), mg (Str.ofString p.nm) = some (.ref a) ∧ PySem.W.nsIn K mainGlobals (Str.ofString p.nm) = some (some (.ref a)) ∧ Fun K (Str.ofString p.dn) (Str.ofString p.dn) p.st a fd ∧ ∀ us : List Value, us.length = p.ps.length → bindArgs fd ⟨us, []⟩ = pure (p.ps.zip us)
def okT_ (cs : List String) (T : List PD) : Bool := T.all fun p => okDef ⟨T.map (·.nm), cs, true⟩ p.N p.d p.st
def okN_ (T : List PD) : Bool := decide (T.map (·.nm)).Nodup
theorem pick_of {T : List PD} {p : PD} (hn : okN_ T = true) (h : p ∈ T) : pick T p.nm = some p := by
  have hn : (T.map (·.nm)).Nodup := of_decide_eq_true hn
  unfold pick
  induction T with
  | nil => simp at h
  | cons q T ih =>
    rw [List.find?_cons]
    rw [List.map_cons, List.nodup_cons] at hn
    by_cases e : q.nm == p.nm
    · rw [e]
      have e : q.nm = p.nm := by simpa using e
      rcases List.mem_cons.mp h with z | z
      · rw [z]
      · exact absurd (List.mem_map.mpr ⟨p, z, e.symm⟩) hn.1
    · have e' : (q.nm == p.nm) = false := by simpa using e
      rw [e']
      rcases List.mem_cons.mp h with z | z
      · rw [z] at e; simp at e
      · exact ih (decide_eq_true hn.2) z hn.2
theorem prog_ok {P : Program} {w : World} {K : PySem.W.Frag} {mg : Str → Option Value} {base : Heap} {T : List PD} {cs : List String} (hT : okT_ cs T = true) (hN : okN_ T = true) (hb : ∀ s ∈ blts, mg (Str.ofString s) = none) (hx : ExcOk K mg cs) (hnd : "NoDigit" ∈ cs → NdF P w K mg base) (hD : ∀ p ∈ T, There K mg p) :
    ∀ n, ∀ p ∈ T, Cal P w K mg base (n + 2) (Phi T n) p.nm ∧ ∀ a fd, Fun K (Str.ofString p.dn) (Str.ofString p.dn) p.st a fd → FnOk P w K mg base (L2.CX P w) (n + 2) a fd p.ps (spOf K mg p.d.np (Phi T n p.nm)) := by
  intro n
  induction n with
  | zero =>
    intro p hp
    have key : ∀ a fd, FnOk P w K mg base (L2.CX P w) (0 + 2) a fd p.ps (spOf K mg p.d.np (Phi T 0 p.nm)) := fun a fd => ⟨fun vs H Q E h => by
      obtain ⟨_, _, _, _, _, _, _, _, z, _⟩ := h
      exact z.elim, fun A outer s H args us vs Q E _ _ _ _ h => by
      obtain ⟨_, _, _, _, _, _, _, _, z, _⟩ := h
      exact z.elim⟩
    obtain ⟨a, fd, h1, h0, h2, h3⟩ := hD p hp
    exact ⟨⟨a, fd, p.d.np, p.ps, h1, h0, h2.kp, .all h3, Phi_len (pick_of hN hp) 0, key a fd⟩, fun a fd _ => key a fd⟩
  | succ n ih =>
    intro p hp
    have hc : ∀ g ∈ T.map (·.nm), Cal P w K mg base (n + 2) (Phi T n) g := fun g hg => by
      obtain ⟨q, hq, rfl⟩ := List.mem_map.mp hg
      exact (ih q hq).1
    have key : ∀ a fd, Fun K (Str.ofString p.dn) (Str.ofString p.dn) p.st a fd → FnOk P w K mg base (L2.CX P w) (n + 1 + 2) a fd p.ps (spOf K mg p.d.np (Phi T (n + 1) p.nm)) := fun a fd Fu => by
      rw [Phi_succ (pick_of hN hp)]
      exact def_ok (fs := ⟨T.map (·.nm), cs, true⟩) (k := n + 2) Fu (List.all_eq_true.mp hT p hp) hb rfl (by omega) hx hnd hc
    obtain ⟨a, fd, h1, h0, h2, h3⟩ := hD p hp
    exact ⟨⟨a, fd, p.d.np, p.ps, h1, h0, h2.kp, .all h3, Phi_len (pick_of hN hp) (n + 1), key a fd h2⟩, key⟩
end MS
namespace MS
open PySem PySem.Spec PyProof.Rows L2
/-! ### NoDigit: its __init__ -/
/-- A.__init__(self, ..), A a class of the text over ValueError without one of its own -/
theorem pe_sinit {X : Cx} {e : Expr} {es : List Expr} {ta : TA} {p1 p2 pos : Pos} {S : Addr} {x : Str} {pl : Sem Bool} (hg : Gl X x) (hm : X.mg x = some (.ref S)) (hd : (x == ("__debug__" : Str)) = false) (rd : PySem.W.readsIn X.K S (.type "type") = true)
    (ga : PySem.W.specialIn X.K (.ref S) "__getattribute__" = some (some (.builtin "type.__getattribute__"))) (at_ : PySem.W.findCls X.K (.ref S) (.type "type") "__init__" = some (.val (.builtin "ValueError.__init__"))) (ha : PA X (e :: es) ta)
    (hc : eval (.Call (.Attribute (.Name x p1) "__init__" p2) (e :: es) [] pos) X.env = (do
      let ov ← eval (.Name x p1) X.env
      standAt p2.atName
      let (f, first) ← holding [ov] (getMethod ov "__init__" pl)
      callWith pos f first (backTo pos (starEach (e :: es) X.env)) (backToKw pos (keywordEach [] X.env))))
    (he : starEach (e :: es) X.env = (false, eval e X.env) :: starEach es X.env) (hpl : (backTo pos (starEach es X.env)).any (·.1) = false) :
    PE X (.Call (.Attribute (.Name x p1) "__init__" p2) (e :: es) [] pos) (tVeI X.K ta) := by
  refine ⟨fun pins s σ H Q I h => PySem.W.methodCall_KW (ld_glob I hg hm ?_ hd) hc⟩
  refine PySem.W.method_cls I.kIn ga (PySem.W.cls_value I.kIn rd at_ rfl ?_)
  show wpAny _ _ (callWith pos (Value.builtin "ValueError.__init__") [] (backTo pos (starEach (e :: es) X.env)) []) _ _ _
  refine PyProof.Rows.callWith_method1 (thn (ha.run pos pins _ σ H _ (I.tok _) h) fun us t ⟨vs, H1, J, rv, a, C, ws, hv, hl, T, ea, q⟩ => ?_) he hpl
  subst hv
  cases rv with
  | @cons _ u _ ur ru rr =>
    cases (show u = Value.ref a from ru)
    refine oinit_ok T J ea ?_ fun t' J' => ⟨.non, H1, J', rfl, q⟩
    have := rr.length
    have := sizeLine_eq
    omega
theorem str_len : ∀ i : Nat, i < 400 → (toString (i : Int) : Str).length ≤ 1000 := by decide +kernel
theorem nd_init {P : Program} {w : World} {K : PySem.W.Frag} {mg : Str → Option Value} {base : Heap} {x qual : Str} {st : Stmt} {f S : Addr} {fd : FuncData} {p1 p2 p3 p4 p5 p6 p7 p8 p9 pa pb pc pd pe : Pos} {k : Nat} (Fu : Fun K x qual st f fd) (Sc : FnScope ["self", "place"] ["self", "place"] (defScope st))
    (hb : defBody st = [.Expr (.Call (.Attribute (.Name "ScaleError" p1) "__init__" p2) [.Name "self" p3, .BinOp (.Constant (.str "no digit at place ") k p4) .Add (.Call (.Name "str" p5) [.Name "place" p6] [] p7) p8] [] p9) pa, .Assign [.Attribute (.Name "self" pb) "place" pc] (.Name "place" pd) pe])
    {pl : Value → Around → List Env → Shared → Hp → XK → Sem Bool} (hc : ∀ (cdv : Value) (A : Around) (outer : List Env) (s : Shared) (H : Hp) (E : XK), eval (.Call (.Attribute (.Name "ScaleError" p1) "__init__" p2) [.Name "self" p3, .BinOp (.Constant (.str "no digit at place ") k p4) .Add (.Call (.Name "str" p5) [.Name "place" p6] [] p7) p8] [] p9) (cxOf CX0 P w K mg base ["self", "place"] qual (defScope st) f cdv A outer s H E).nox.env = (do
      let ov ← eval (.Name "ScaleError" p1) (cxOf CX0 P w K mg base ["self", "place"] qual (defScope st) f cdv A outer s H E).nox.env
      standAt p2.atName
      let (f', first) ← holding [ov] (getMethod ov "__init__" (pl cdv A outer s H E))
      callWith p9 f' first (backTo p9 (starEach [.Name "self" p3, .BinOp (.Constant (.str "no digit at place ") k p4) .Add (.Call (.Name "str" p5) [.Name "place" p6] [] p7) p8] (cxOf CX0 P w K mg base ["self", "place"] qual (defScope st) f cdv A outer s H E).nox.env)) (backToKw p9 (keywordEach [] (cxOf CX0 P w K mg base ["self", "place"] qual (defScope st) f cdv A outer s H E).nox.env))))
    (g1 : (defScope st).names.lookup ("ScaleError" : Str) = some .globalImplicit) (g2 : (defScope st).names.lookup ("str" : Str) = some .globalImplicit) (l1 : (defScope st).names.lookup ("self" : Str) = some .local) (l2 : (defScope st).names.lookup ("place" : Str) = some .local)
    (hS : mg "ScaleError" = some (.ref S)) (hstr : mg "str" = none) (rd : PySem.W.readsIn K S (.type "type") = true)
    (ga : PySem.W.specialIn K (.ref S) "__getattribute__" = some (some (.builtin "type.__getattribute__"))) (at_ : PySem.W.findCls K (.ref S) (.type "type") "__init__" = some (.val (.builtin "ValueError.__init__"))) :
    FnOk P w K mg base CX0 1 f fd ["self", "place"] (spNd K) := by
  refine Fu.ok Sc (fun vs H Q E h => ?_) fun cdv A outer s H vs Q E hr hsp => ?_
  · obtain ⟨_, _, _, rfl, _⟩ := h; rfl
  obtain ⟨a, C, i, rfl, T, hpl, ha, i0, i1, q⟩ := hsp
  rw [hb]
  have v0 : ∀ {pos : Pos}, PE (cxOf CX0 P w K mg base ["self", "place"] qual (defScope st) f cdv A outer s H E).nox (.Name "self" pos) (tVar 0) := fun {pos} => pv 0 rfl (.inl l1)
  have v1 : ∀ {pos : Pos}, PE (cxOf CX0 P w K mg base ["self", "place"] qual (defScope st) f cdv A outer s H E).nox (.Name "place" pos) (tVar 1) := fun {pos} => pv 1 rfl (.inl l2)
  refine ⟨_, pss_cons (ps_expr (pe_sinit g1 hS (by decide) rd ga at_ (pa_cons v0 (pa_cons (pe_op op_add_str pe_str (pe_callTy call_str_int g2 hstr (by decide +kernel) (pa_cons v1 pa_nil))) pa_nil)) (hc cdv A outer s H E) rfl rfl)) (pss_cons (ps_ost v0 v1) pss_nil), ?_⟩
  have k1 : i.natAbs.log2 < 1920 := by
    have h1 : i.natAbs < 2 ^ 10 := by omega
    by_cases h0 : i.natAbs = 0
    · rw [h0]; decide
    · have := (Nat.log2_lt h0).mpr h1; omega
  have k2 : ("no digit at place " : Str).length + (toString i : Str).length ≤ sizeLine := by
    obtain ⟨n, rfl⟩ : ∃ n : Nat, i = n := ⟨i.toNat, by omega⟩
    have h1 := str_len n (by omega)
    have h2 : ("no digit at place " : Str).length = 18 := by decide +kernel
    have := sizeLine_eq
    omega
  exact ⟨_, rfl, _, rfl, i, rfl, k1, _, _, rfl, rfl, k2, a, C, _, rfl, by simp, T, ha, _, rfl, _, rfl, a, C, rfl, T, hpl, .inl ⟨ha, fun d hd hda => q d hd hda⟩⟩
/-- what is looked up of it -/
structure NdT (K : PySem.W.Frag) (P : Program) (mg : Str → Option Value) : Prop where
  ok : ∃ (C S fI : Addr) (fd : FuncData) (x qual : Str) (st : Stmt), PySem.W.nsIn K mainGlobals (Str.ofString "NoDigit") = some (some (.ref C)) ∧ OexC K C ∧ PySem.W.findIn K (.ref C) (Str.ofString "place") = some none ∧ PySem.W.findIn K (.ref C) "__init__" = some (some (.ref fI)) ∧
    PySem.W.typeIn K (.ref fI) = some (.type "function") ∧ Fun K x qual st fI fd ∧ Binds K fd ["self", "place"] [] ∧ ∀ (w : World) (base : Heap), FnOk P w K mg base CX0 1 fI fd ["self", "place"] (spNd K)
theorem nd_f {P : Program} {w : World} {K : PySem.W.Frag} {mg : Str → Option Value} {base : Heap} (h : NdT K P mg) : NdF P w K mg base := by
  obtain ⟨C, S, fI, fd, x, qual, st, h1, h2, h3, h4, h5, h6, h7, h8⟩ := h.ok
  exact ⟨C, fI, fd, _, h1, h2, h3, h4, h5, h8 w base, h7⟩
theorem ndt_mk {K : PySem.W.Frag} {P : Program} {mg : Str → Option Value} {h : Heap} (G : h.Ns mainGlobals mg) (X : K.In h) {C S f : Addr} {st : Stmt} {p1 p2 p3 p4 p5 p6 p7 p8 p9 pa pb pc pd pe : Pos} {k : Nat} {fd : FuncData}
    {nm q : Str} {N : Addr} {bs : List Value} {sn : List Str} {sub : List Value} {ab : Bool} {col : Option Bool} {dd : Option Addr} {k0 k1 k2 k3 k5 : Option Value}
    (Fu : Fun K "__init__" "NoDigit.__init__" st f fd) (bnd : Binds K fd ["self", "place"] []) (Sc : FnScope ["self", "place"] ["self", "place"] (defScope st))
    (hb : defBody st = [.Expr (.Call (.Attribute (.Name "ScaleError" p1) "__init__" p2) [.Name "self" p3, .BinOp (.Constant (.str "no digit at place ") k p4) .Add (.Call (.Name "str" p5) [.Name "place" p6] [] p7) p8] [] p9) pa, .Assign [.Attribute (.Name "self" pb) "place" pc] (.Name "place" pd) pe])
    {pl : World → Heap → Value → Around → List Env → Shared → Hp → XK → Sem Bool} (hc : ∀ (w : World) (base : Heap) (cdv : Value) (A : Around) (outer : List Env) (s : Shared) (H : Hp) (E : XK), eval (.Call (.Attribute (.Name "ScaleError" p1) "__init__" p2) [.Name "self" p3, .BinOp (.Constant (.str "no digit at place ") k p4) .Add (.Call (.Name "str" p5) [.Name "place" p6] [] p7) p8] [] p9) (cxOf CX0 P w K mg base ["self", "place"] "NoDigit.__init__" (defScope st) f cdv A outer s H E).nox.env = (do
      let ov ← eval (.Name "ScaleError" p1) (cxOf CX0 P w K mg base ["self", "place"] "NoDigit.__init__" (defScope st) f cdv A outer s H E).nox.env
      standAt p2.atName
      let (f', first) ← holding [ov] (getMethod ov "__init__" (pl w base cdv A outer s H E))
      callWith p9 f' first (backTo p9 (starEach [.Name "self" p3, .BinOp (.Constant (.str "no digit at place ") k p4) .Add (.Call (.Name "str" p5) [.Name "place" p6] [] p7) p8] (cxOf CX0 P w K mg base ["self", "place"] "NoDigit.__init__" (defScope st) f cdv A outer s H E).nox.env)) (backToKw p9 (keywordEach [] (cxOf CX0 P w K mg base ["self", "place"] "NoDigit.__init__" (defScope st) f cdv A outer s H E).nox.env))))
    (g1 : (defScope st).names.lookup ("ScaleError" : Str) = some .globalImplicit) (g2 : (defScope st).names.lookup ("str" : Str) = some .globalImplicit) (l1 : (defScope st).names.lookup ("self" : Str) = some .local) (l2 : (defScope st).names.lookup ("place" : Str) = some .local)
    (xC : PySem.W.nsIn K mainGlobals "NoDigit" = some (some (.ref C))) (xS : PySem.W.nsIn K mainGlobals "ScaleError" = some (some (.ref S))) (xs : PySem.W.nsIn K mainGlobals "str" = some none)
    (lC : K.lookup C = some (PySem.excClassObj nm q C N bs [.ref S, .type "ValueError", .type "Exception", .type "BaseException", .type "object"] true sn sub ab col dd k0 k1 k2 k3 k5 "ValueError.__new__"))
    (sa : PySem.W.findIn K (.ref C) "__setattr__" = some (some (.builtin "object.__setattr__"))) (eC : PySem.W.subIn K (.ref C) (.type "BaseException") = some true) (tC : PySem.W.typeIn K (.ref C) = some (.type "type")) (kC : PySem.W.keepIn K (.ref C) = true)
    (no : PySem.W.findIn K (.ref C) "place" = some none) (iC : PySem.W.findIn K (.ref C) "__init__" = some (some (.ref f))) (tI : PySem.W.typeIn K (.ref f) = some (.type "function"))
    (rd : PySem.W.readsIn K S (.type "type") = true) (ga : PySem.W.specialIn K (.ref S) "__getattribute__" = some (some (.builtin "type.__getattribute__"))) (at_ : PySem.W.findCls K (.ref S) (.type "type") "__init__" = some (.val (.builtin "ValueError.__init__"))) : NdT K P mg :=
  ⟨C, S, f, fd, _, _, st, xC, ⟨⟨nm, q, N, bs, _, sn, sub, ab, col, dd, k0, k1, k2, k3, k5, lC, by rfl⟩, sa, eC, tC, kC⟩, no, iC, tI, Fu, bnd, fun w base => nd_init Fu Sc hb (pl := pl w base) (hc w base) g1 g2 l1 l2 (PySem.W.mg_of X G xS) (PySem.W.mg_none_of X G xs) rd ga at_⟩
end MS
namespace MS
open PySem PySem.Spec PyProof.Rows L2
/-! ### the end: from the core's law to the row's -/
def BindsD (p : PD) : Prop := ∀ (kV doc pm : Value) (an : Option Addr) (cdv ct : Value) (us : List Value), us.length = p.ps.length → bindArgs (PySem.W.fnOf (Str.ofString p.dn) (Str.ofString p.dn) (defArgs p.st) (defBody p.st) (defScope p.st) .none kV doc pm an cdv ct) ⟨us, []⟩ = pure (p.ps.zip us)
theorem there_mk {K : PySem.W.Frag} {h : Heap} {mg : Str → Option Value} {p : PD} (X : K.In h) (G : h.Ns mainGlobals mg) (hb : BindsD p) {f : Addr} {oc : Value} {od an : Option Addr} {osl : Array (Option Value)} {kV doc pm cdv ct : Value}
    (a : PySem.W.nsIn K mainGlobals (Str.ofString p.nm) = some (some (.ref f)))
    (l : K.lookup f = some ⟨oc, od, .func (PySem.W.fnOf (Str.ofString p.dn) (Str.ofString p.dn) (defArgs p.st) (defBody p.st) (defScope p.st) .none kV doc pm an cdv ct), osl⟩)
    (c : PySem.W.codeIn K cdv (Str.ofString p.dn) = true) (k : PySem.W.keepIn K (.ref f) = true) : There K mg p :=
  ⟨f, _, PySem.W.mg_of X G a, a, fun_mk l c k, hb kV doc pm an cdv ct⟩
theorem blts_mk {K : PySem.W.Frag} {h : Heap} {mg : Str → Option Value} (X : K.In h) (G : h.Ns mainGlobals mg)
    (b1 : PySem.W.nsIn K mainGlobals (Str.ofString "len") = some none) (b2 : PySem.W.nsIn K mainGlobals (Str.ofString "tuple") = some none) (b3 : PySem.W.nsIn K mainGlobals (Str.ofString "list") = some none)
    (b4 : PySem.W.nsIn K mainGlobals (Str.ofString "abs") = some none) (b5 : PySem.W.nsIn K mainGlobals (Str.ofString "max") = some none) (b6 : PySem.W.nsIn K mainGlobals (Str.ofString "min") = some none)
    (b7 : PySem.W.nsIn K mainGlobals (Str.ofString "sum") = some none) (b8 : PySem.W.nsIn K mainGlobals (Str.ofString "sorted") = some none) (b9 : PySem.W.nsIn K mainGlobals (Str.ofString "int") = some none)
    (b10 : PySem.W.nsIn K mainGlobals (Str.ofString "all") = some none) (b11 : PySem.W.nsIn K mainGlobals (Str.ofString "range") = some none) (b12 : PySem.W.nsIn K mainGlobals (Str.ofString "reversed") = some none)
    (b13 : PySem.W.nsIn K mainGlobals (Str.ofString "enumerate") = some none) (b14 : PySem.W.nsIn K mainGlobals (Str.ofString "zip") = some none) (b15 : PySem.W.nsIn K mainGlobals (Str.ofString "isinstance") = some none)
    (b16 : PySem.W.nsIn K mainGlobals (Str.ofString "bool") = some none) (b17 : PySem.W.nsIn K mainGlobals (Str.ofString "str") = some none) (b18 : PySem.W.nsIn K mainGlobals (Str.ofString "dict") = some none) (b19 : PySem.W.nsIn K mainGlobals (Str.ofString "ValueError") = some none) (b20 : PySem.W.nsIn K mainGlobals (Str.ofString "set") = some none) : ∀ s ∈ blts, mg (Str.ofString s) = none := by
  intro s hs
  simp only [blts, List.mem_cons, List.not_mem_nil, or_false] at hs
  rcases hs with rfl | rfl | rfl | rfl | rfl | rfl | rfl | rfl | rfl | rfl | rfl | rfl | rfl | rfl | rfl | rfl | rfl | rfl | rfl | rfl <;> exact PySem.W.mg_none_of X G (by assumption)
/-- what is looked up of a class of exceptions -/
structure XC0 (K : PySem.W.Frag) (c : String) (C : Addr) : Prop where
  ns : PySem.W.nsIn K mainGlobals (Str.ofString c) = some (some (.ref C))
  kp : PySem.W.keepIn K (.ref C) = true
  sub : PySem.W.subIn K (.ref C) (.type "BaseException") = some true
  ty : PySem.W.typeIn K (.ref C) = some (.type "type")
  hd : PySem.W.hasDictIn K C = true
  ga : PySem.W.findIn K (.ref C) "__getattribute__" = some (some (.builtin "BaseException.__getattribute__"))
  gg : PySem.W.findIn K (.ref C) "__getattr__" = some none
  cl : PySem.W.findIn K (.ref C) "__class__" = some (some (.builtin "object.__class__"))
  ob : PySem.W.mroIn K C (.type "object") = some true
  ve : PySem.W.subIn K (.ref C) (.type "ValueError") = some true
theorem kit_ve {K : PySem.W.Frag} {C : Addr} (h : PySem.W.subIn K (.ref C) (.type "ValueError") = some true) : PySem.W.kitOne K (.ref C) (.type "ValueError") = some true := by
  unfold PySem.W.kitOne PySem.W.kitCls
  rw [if_neg (by simp)]
  have : PySem.W.kitMeta "ValueError" = true := by decide +kernel
  simp only [this, if_true]
  exact h
theorem kit_pair {K : PySem.W.Frag} {C D : Addr} {b : Bool} (hs : PySem.W.subIn K (.ref C) (.ref C) = some true) (hd : PySem.W.hasDictIn K D = true) (ht : PySem.W.typeIn K (.ref D) = some (.type "type")) (h : PySem.W.subIn K (.ref C) (.ref D) = some b) : PySem.W.kitOne K (.ref C) (.ref D) = some b := by
  unfold PySem.W.kitOne
  by_cases e : C = D
  · subst e
    rw [hs] at h
    cases h
    simp
  · rw [if_neg (by simpa using e)]
    have ic : (PySem.W.clsIn K D).isSome = true := by
      unfold PySem.W.hasDictIn at hd
      cases q : PySem.W.clsIn K D with
      | none => rw [q] at hd; cases hd
      | some _ => rfl
    show (if ((PySem.W.clsIn K D).isSome && PySem.W.typeIn K (.ref D) == some (.type "type")) = true then PySem.W.subIn K (.ref C) (.ref D) else none) = some b
    rw [ic, ht, if_pos (by rfl)]
    exact h
theorem exc_mk {K : PySem.W.Frag} {h : Heap} {mg : Str → Option Value} {cs : List String} (X : K.In h) (G : h.Ns mainGlobals mg) (ad : String → Addr) (all : ∀ c ∈ cs, c ∈ allC) (one : ∀ c ∈ cs, XC0 K c (ad c))
    (non : ∀ c ∈ allC, c ∉ cs → PySem.W.nsIn K mainGlobals (Str.ofString c) = some none) (two : ∀ c ∈ cs, ∀ d ∈ cs, PySem.W.subIn K (.ref (ad c)) (.ref (ad d)) = some (subX c d))
    (tx : ∀ c ∈ cs, c ≠ "NoDigit" → PySem.W.excIn K (ad c) [.type "ValueError", .type "Exception", .type "BaseException", .type "object"] "ValueError.__new__" = true)
    (pl : "NoDigit" ∈ cs → PySem.W.findIn K (.ref (ad "NoDigit")) "place" = some none)
    (sp : PySem.W.specialIn K (.builtin "object.__class__") "__get__" = some (some (.builtin "getset_descriptor.__get__"))) (tk : PySem.W.takesIn K (.builtin "object.__class__") = some true) : ExcOk K mg cs := by
  have at_ : ∀ c ∈ cs, ∀ C, PySem.W.nsIn K mainGlobals (Str.ofString c) = some (some (.ref C)) → C = ad c := fun c hc C e => by
    have := (one c hc).ns
    rw [e] at this
    cases this; rfl
  have nd : ∀ c ∈ allC, ∀ C, PySem.W.nsIn K mainGlobals (Str.ofString c) = some (some (.ref C)) → c ∈ cs := fun c hc C e => by
    by_cases z : c ∈ cs
    · exact z
    · rw [non c hc z] at e; cases e
  refine ⟨all, fun c hc => ⟨ad c, ?_⟩, fun c hc hn C e => ?_, fun c hc d hd C D e1 e2 => ?_, fun c hc hn C e => ?_, fun C e => ?_, sp, tk⟩
  · have x := one c hc
    exact ⟨x.ns, PySem.W.mg_of X G x.ns, x.kp, x.sub, x.ty, x.hd, x.ga, x.gg, x.cl, x.ob, kit_ve x.ve⟩
  · rw [non c hc hn] at e; cases e
  · have h1 := at_ c hc C e1
    have h2 := at_ d hd D e2
    subst h1 h2
    have xc := one c hc
    have xd := one d hd
    have t := two c hc d hd
    have tc := two c hc c hc
    have sc : subX c c = true := by simp [subX]
    rw [sc] at tc
    exact ⟨PySem.W.exm_ref xd.sub xd.hd xd.ty t, kit_pair tc xd.hd xd.ty t⟩
  · rw [at_ c hc C e]; exact tx c hc hn
  · have hm := nd _ (by decide) C e
    rw [at_ _ hm C e]; exact pl hm
def spL (K : PySem.W.Frag) (most : Nat) : Sp := fun vs H Q _ => ∃ (a : Addr) (ns : List Int), vs = [.ref a] ∧ Only H ∧ SqL K H a (ns.map V.int) ∧ ns.length ≤ most ∧ ∀ H', Q (.bl true) H'
/-- what is to be shown of the core's law -/
def LawSem (T : List PD) (k most : Nat) (nm : String) : Prop := ∀ ns : List Int, ns.length ≤ most → Phi T k nm [false] [⟨.raw, .list (intsD ns)⟩] (fun e _ => e.d = .bool true) (fun _ => False)
theorem spL_imp {K : PySem.W.Frag} {mg : Str → Option Value} {T : List PD} {k most : Nat} {nm : String} (sem : LawSem T k most nm) (vs : List V) (H : Hp) (Q : VK) (E : XK) (h : spL K most vs H Q E) : spOf K mg 1 (Phi T k nm) vs H Q E := by
  obtain ⟨a, ns, rfl, hO, hS, hl, q⟩ := h
  refine ⟨rfl, fun _ => False, [⟨.raw, .list (intsD ns)⟩], [], [false], _, _, ⟨⟨[], [], rfl, ⟨.ref a, rfl, Ow_raw.mpr ⟨rfl, a, _, rfl, ?_, dvA_ints ns⟩⟩, rfl⟩, by simp, by simp, fun _ z => z.elim⟩, sem ns hl, ?_, ?_⟩
  · rcases hS with (hS | hS) | hS
    · rcases hO a with z | ⟨o, xs, z⟩
      · rw [z] at hS; cases hS
      · rw [z] at hS; cases hS
    · exact .inl hS
    · exact .inr hS
  · intro e os es' F' H' f' g v _ _ _ _ _ o _ q0
    have q0 : e.d = .bool true := q0
    rw [q0] at o
    rw [o.bl]
    exact q H'
  · intro x F' H' cls d _ _ _ z
    exact z.elim
theorem walk_end {l : PySem.W.OpenLaw} {q : Program} {loose : List Str} {XP : (Str → Option Value) → Heap → Prop} {YP : World → Heap → Prop} {d : DefRec} {K : Params → PySem.W.Frag} {T : List PD} {cs : List String} {pl : PD} {most k : Nat} {x : Str}
    (hn : l.most = some most) (hm : most ≤ sizeLine) (hdf : d.params.defaults = []) (hr : Room (k + 2) callerA) (hT : okT_ cs T = true) (hN : okN_ T = true) (hpl : pl ∈ T) (hnm : d.name = Str.ofString pl.nm) (hps : pl.ps = [x]) (hnp : pl.d.np = 1)
    (sem : LawSem T k most pl.nm) (hY : ∀ (w : World) (h : Heap), YP w h → (K w.params).In h)
    (hD : ∀ (w : World) (mg : Str → Option Value) (h : Heap), (K w.params).In h → h.Ns mainGlobals mg → (∀ s ∈ blts, mg (Str.ofString s) = none) ∧ ExcOk (K w.params) mg cs ∧ ("NoDigit" ∈ cs → NdT (K w.params) l.prog mg) ∧ ∀ p ∈ T, There (K w.params) mg p) :
    PySem.W.WalkO q loose XP YP l.row.toRowW d [] (fun f vs => PySem.call f vs) := by
  refine L2.walk_of (n := most) (k := k + 2) (x := x) (CX := fun w => L2.CX l.prog w) (sp := fun w => spL (K w.params) most) hn hm hdf hr hY (fun w mg fa h KX G hmg => ?_) (fun w H a ns hl hO hS => ⟨a, ns, rfl, hO, hS, hl, fun _ => rfl⟩) fun w H s e s' z => ?_
  · obtain ⟨hb, hE, hN', hTh⟩ := hD w mg h KX G
    obtain ⟨a, fd, h1, _, Fu, hbind⟩ := hTh pl hpl
    have e : fa = a := by
      rw [hnm, h1] at hmg
      cases hmg; rfl
    subst e
    refine ⟨fd, fun s u => .of_eq (by have := hbind [u] (by rw [hps]; rfl); rw [this, hps]; rfl), fun base hKb hns => ?_⟩
    have := ((prog_ok (P := l.prog) (w := w) (base := base) hT hN hb hE (fun z => nd_f (hN' z)) hTh) k pl hpl).2 fa fd Fu
    rw [hps, hnp] at this
    exact this.imp (spL_imp sem)
  · obtain ⟨_, _, _, _, _, _, _, _, _, _, _, _, z⟩ := z
    exact z
end MS
namespace MS
open PySem
/-! ### reckoning with the core's readings -/
@[simp] theorem onO_s {α : Type} {a : α} {f : α → Prop} : onO (some a) f = f a := rfl
@[simp] theorem onO_n {α : Type} {f : α → Prop} : onO (none : Option α) f = False := rfl
@[simp] theorem at_0 {o : Option Ety} {ρ : Rho} : Rho.at (o :: ρ) 0 = o := by unfold Rho.at; cases o <;> rfl
@[simp] theorem at_s {o : Option Ety} {ρ : Rho} {i : Nat} : Rho.at (o :: ρ) (i + 1) = Rho.at ρ i := rfl
@[simp] theorem isBool_b {p : Perm} {b : Bool} {f : Bool → Prop} : isBool ⟨p, .bool b⟩ f = f b := rfl
@[simp] theorem isInt_i {p : Perm} {b : Int} {f : Int → Prop} : isInt ⟨p, .int b⟩ f = f b := rfl
@[simp] theorem isLst_l {p : Perm} {b : List D} {f : Perm → List D → Prop} : isLst ⟨p, .list b⟩ f = f p b := rfl
@[simp] theorem tupOf_t {p : Perm} {b : List D} : tupOf ⟨p, .tuple b⟩ = some b := rfl
@[simp] theorem seqOf_l {b : List D} : seqOf ⟨.sh, .list b⟩ = some b := rfl
@[simp] theorem seqOf_t {b : List D} : seqOf ⟨.sh, .tuple b⟩ = some b := rfl
@[simp] theorem fz_sh : Perm.fz .sh = .sh := rfl
@[simp] theorem fz_own : Perm.fz (.own .sh) = .sh := rfl
@[simp] theorem fz_own2 : Perm.fz (.own (.own .sh)) = .sh := rfl
@[simp] theorem fz_pile : Perm.fz (.own .raw) = .own .raw := rfl
@[simp] theorem fz_raw : Perm.fz .raw = .raw := rfl
@[simp] theorem el_sh : Perm.el .sh = true := rfl
@[simp] theorem el_own : Perm.el (.own .sh) = true := rfl
@[simp] theorem el_raw : Perm.el .raw = true := rfl
@[simp] theorem tr_sh : Perm.tr .sh = true := rfl
@[simp] theorem tr_own : Perm.tr (.own .sh) = true := rfl
@[simp] theorem cl_sh : Perm.clean .sh = true := rfl
@[simp] theorem cl_raw : Perm.clean .raw = true := rfl
@[simp] theorem cl_o1 : Perm.clean (.own .sh) = true := rfl
@[simp] theorem cl_o2 : Perm.clean (.own (.own .sh)) = true := rfl
@[simp] theorem tupOf_s {b : List D} : tupOf ⟨.sh, .list b⟩ = some b := rfl
@[simp] theorem tupOf_l {b : List D} : tupOf ⟨.own .sh, .list b⟩ = some b := rfl
@[simp] theorem shV_nil : shV [] = some [] := rfl
@[simp] theorem shV_cons {d : D} {as : List AV} : shV (.val ⟨.sh, d⟩ :: as) = (shV as).map (d :: ·) := rfl
@[simp] theorem isPk_v {e : Ety} : AV.isPk (.val e) = false := rfl
@[simp] theorem isPk_p {i : Nat} : AV.isPk (.pk i) = true := rfl
/-! ### data -/
theorem atI_nat {α : Type} {xs : List α} {i : Int} {d : α} (h0 : 0 ≤ i) (h : xs[i.toNat]? = some d) : L2.atI xs i = some d := by
  have hl := (List.getElem?_eq_some_iff.mp h).1
  unfold L2.atI L2.ixN
  rw [if_pos h0, if_pos (by omega)]
  exact h
theorem atI_neg {α : Type} {xs : List α} {i : Int} {d : α} (h0 : i < 0) (hl : -(xs.length : Int) ≤ i) (h : xs[(i + xs.length).toNat]? = some d) : L2.atI xs i = some d := by
  unfold L2.atI L2.ixN
  rw [if_neg (by omega), if_pos hl]
  exact h
theorem ixN_nat {n : Nat} {i : Int} (h0 : 0 ≤ i) (h : i < n) : L2.ixN n i = some i.toNat := by
  unfold L2.ixN
  rw [if_pos h0, if_pos h]
@[simp] theorem ints_nil : intsD [] = [] := rfl
@[simp] theorem ints_cons {n : Int} {ns : List Int} : intsD (n :: ns) = .int n :: intsD ns := rfl
@[simp] theorem ints_len (ns : List Int) : (intsD ns).length = ns.length := by simp [intsD]
theorem ints_app (a b : List Int) : intsD (a ++ b) = intsD a ++ intsD b := by simp [intsD]
theorem ints_rev (a : List Int) : (intsD a).reverse = intsD a.reverse := by simp [intsD]
theorem ints_take (a : List Int) (n : Nat) : (intsD a).take n = intsD (a.take n) := by simp [intsD]
theorem ints_drop (a : List Int) (n : Nat) : (intsD a).drop n = intsD (a.drop n) := by simp [intsD]
theorem ints_get {a : List Int} {i : Nat} {n : Int} (h : a[i]? = some n) : (intsD a)[i]? = some (.int n) := by simp [intsD, h]
theorem ints_of {a : List Int} {i : Nat} {d : D} (h : (intsD a)[i]? = some d) : ∃ n, a[i]? = some n ∧ d = .int n := by
  unfold intsD at h
  rw [List.getElem?_map] at h
  cases e : a[i]? with
  | none => rw [e] at h; cases h
  | some n => rw [e] at h; exact ⟨n, rfl, (Option.some.inj h).symm⟩
theorem ints_inj : ∀ {a b : List Int}, intsD a = intsD b → a = b
  | [], [], _ => rfl
  | [], _ :: _, h => by simp [intsD] at h
  | _ :: _, [], h => by simp [intsD] at h
  | x :: a, y :: b, h => by
    rw [ints_cons, ints_cons, List.cons.injEq] at h
    rw [ints_inj h.2]
    cases h.1; rfl
theorem rgD_ints (a b : Int) : rgD a b = intsD ((List.range (b - a).toNat).map fun i => a + (i : Nat)) := by
  unfold rgD intsD
  rw [List.map_map]; rfl
/-- good for == -/
def shN (k : Nat) (d : D) : Prop := d.canLay0 = true ∧ d.depth ≤ k
theorem shN.ok {k : Nat} {d : D} (h : shN k d) (hk : k ≤ 64 := by decide) : SeqAt.shaped d = true := by
  unfold SeqAt.shaped
  rw [h.1, Bool.true_and]
  exact decide_eq_true (Nat.le_trans h.2 hk)
theorem shN_int {n : Int} {k : Nat} : shN k (.int n) := ⟨by simp [PyData.canLay0], by simp [PyData.depth]⟩
theorem shN_bool {n : Bool} {k : Nat} : shN k (.bool n) := ⟨by simp [PyData.canLay0], by simp [PyData.depth]⟩
theorem shN_none {k : Nat} : shN k .none := ⟨by simp [PyData.canLay0], by simp [PyData.depth]⟩
theorem shN_all {k : Nat} : ∀ {ds : List D}, (∀ d ∈ ds, shN k d) → PyData.canLayAll0 ds = true ∧ PyData.depthAll ds ≤ k
  | [], _ => ⟨by simp [PyData.canLayAll0], by simp [PyData.depthAll]⟩
  | d :: ds, h => by
    obtain ⟨h1, h2⟩ := shN_all (ds := ds) fun x hx => h x (by simp [hx])
    obtain ⟨h3, h4⟩ := h d (by simp)
    refine ⟨by simp [PyData.canLayAll0, h1, h3], ?_⟩
    simp only [PyData.depthAll]
    omega
theorem shN_tup {k : Nat} {ds : List D} (h : ∀ d ∈ ds, shN k d) : shN (k + 1) (.tuple ds) := by
  obtain ⟨h1, h2⟩ := shN_all h
  exact ⟨by simp only [PyData.canLay0]; exact h1, by simp only [PyData.depth]; omega⟩
theorem shN_lst {k : Nat} {ds : List D} (h : ∀ d ∈ ds, shN k d) : shN (k + 1) (.list ds) := by
  obtain ⟨h1, h2⟩ := shN_all h
  exact ⟨by simp only [PyData.canLay0]; exact h1, by simp only [PyData.depth]; omega⟩
theorem mem_ints {d : D} {ns : List Int} (h : d ∈ intsD ns) : ∃ n ∈ ns, d = .int n := by
  obtain ⟨n, h1, h2⟩ := List.mem_map.mp h
  exact ⟨n, h1, h2.symm⟩
theorem shN_ints {k : Nat} {ns : List Int} : ∀ d ∈ intsD ns, shN k d := fun d h => by
  obtain ⟨n, _, rfl⟩ := mem_ints h
  exact shN_int
@[simp] theorem shaped_int {n : Int} : SeqAt.shaped (.int n) = true := (shN_int (k := 0)).ok
@[simp] theorem shaped_bool {n : Bool} : SeqAt.shaped (.bool n) = true := (shN_bool (k := 0)).ok
@[simp] theorem shaped_none : SeqAt.shaped .none = true := (shN_none (k := 0)).ok
@[simp] theorem shaped_tints {ns : List Int} : SeqAt.shaped (.tuple (intsD ns)) = true := (shN_tup (k := 0) shN_ints).ok
@[simp] theorem shaped_lints {ns : List Int} : SeqAt.shaped (.list (intsD ns)) = true := (shN_lst (k := 0) shN_ints).ok
@[simp] theorem shaped_tnil : SeqAt.shaped (.tuple []) = true := (shN_tup (k := 0) (by simp)).ok
@[simp] theorem shaped_lnil : SeqAt.shaped (.list []) = true := (shN_lst (k := 0) (by simp)).ok
theorem eqvAll_ints : ∀ (a b : List Int), PyData.eqvAll (intsD a) (intsD b) = decide (a = b)
  | [], [] => by simp [PyData.eqvAll]
  | [], y :: b => by simp [PyData.eqvAll]
  | x :: a, [] => by simp [PyData.eqvAll]
  | x :: a, y :: b => by
    rw [ints_cons, ints_cons]
    simp only [PyData.eqvAll, PyData.eqv, eqvAll_ints a b]
    by_cases h : x = y <;> simp [h]
@[simp] theorem eqv_int {a b : Int} : PyData.eqv (.int a) (.int b) = decide (a = b) := by
  simp only [PyData.eqv]
  by_cases h : a = b <;> simp [h]
@[simp] theorem eqv_tints {a b : List Int} : PyData.eqv (.tuple (intsD a)) (.tuple (intsD b)) = decide (a = b) := by
  simp only [PyData.eqv]; exact eqvAll_ints a b
@[simp] theorem eqv_lints {a b : List Int} : PyData.eqv (.list (intsD a)) (.list (intsD b)) = decide (a = b) := by
  simp only [PyData.eqv]; exact eqvAll_ints a b
@[simp] theorem eqv_tintsnil {a : List Int} : PyData.eqv (.tuple (intsD a)) (.tuple []) = decide (a = []) := eqv_tints (b := [])
@[simp] theorem eqv_lintsnil {a : List Int} : PyData.eqv (.list (intsD a)) (.list []) = decide (a = []) := eqv_lints (b := [])
@[simp] theorem eqv_lnil : PyData.eqv (.list []) (.list []) = true := by simp [PyData.eqv, PyData.eqvAll]
theorem sizeLine_big : 1000000 ≤ sizeLine := by decide
/-! ### loops -/
theorem wpFor_inv {b : D → Rho → Kt → Prop} {k : Kt} {ds : List D} (I : Nat → Rho → Prop) {ρ : Rho} (h0 : I 0 ρ)
    (step : ∀ (i : Nat) (d : D) (ρ' : Rho) (K : Kt), ds[i]? = some d → I i ρ' → (∀ ρ'', I (i + 1) ρ'' → K.nx ρ'') → (∀ ρ'', I (i + 1) ρ'' → K.ct ρ'') → K.bk = k.nx → K.rt = k.rt → K.xe = k.xe → b d ρ' K)
    (fin : ∀ ρ', I ds.length ρ' → k.nx ρ') : wpFor b ds ρ k := by
  induction ds generalizing I ρ with
  | nil => exact fin ρ h0
  | cons d ds ih =>
    unfold wpFor
    have next : ∀ ρ'', I 1 ρ'' → wpFor b ds ρ'' k := fun ρ'' h => ih (fun i => I (i + 1)) h (fun i d' ρ' K hd hI h1 h2 h3 h4 h5 => step (i + 1) d' ρ' K (by simpa using hd) hI h1 h2 h3 h4 h5) fin
    exact step 0 d ρ _ rfl h0 next next rfl rfl rfl
theorem wpComp_inv {b : D → Rho → (Option Ety → Rho → Prop) → Prop} {Q : List D → Rho → Prop} {ds : List D} (I : Nat → List D → Rho → Prop) {acc : List D} {ρ : Rho} (h0 : I 0 acc ρ)
    (step : ∀ (i : Nat) (d : D) (acc : List D) (ρ' : Rho) (K : Option Ety → Rho → Prop), ds[i]? = some d → I i acc ρ' → (∀ ρ'', I (i + 1) acc ρ'' → K none ρ'') → (∀ e ρ'', I (i + 1) (e.d :: acc) ρ'' → K (some e) ρ'') → b d ρ' K)
    (fin : ∀ acc ρ', I ds.length acc ρ' → Q acc.reverse ρ') : wpComp b ds acc ρ Q := by
  induction ds generalizing I acc ρ with
  | nil => exact fin acc ρ h0
  | cons d ds ih =>
    unfold wpComp
    refine step 0 d acc ρ _ rfl h0 (fun ρ'' h => ?_) fun e ρ'' h => ?_
    · exact ih (fun i => I (i + 1)) h (fun i d' acc ρ' K hd hI h1 h2 => step (i + 1) d' acc ρ' K (by simpa using hd) hI h1 h2) fin
    · exact ih (fun i => I (i + 1)) h (fun i d' acc ρ' K hd hI h1 h2 => step (i + 1) d' acc ρ' K (by simpa using hd) hI h1 h2) fin
/-- [g of each item]: every item kept -/
theorem wpComp_map {b : D → Rho → (Option Ety → Rho → Prop) → Prop} {Q : List D → Rho → Prop} {ds : List D} (P : Rho → Prop) (g : Nat → D) {ρ : Rho} (h0 : P ρ)
    (step : ∀ (i : Nat) (d : D) (ρ' : Rho) (K : Option Ety → Rho → Prop), ds[i]? = some d → P ρ' → (∀ e ρ'', e.d = g i → P ρ'' → K (some e) ρ'') → b d ρ' K)
    (fin : ∀ ρ', P ρ' → Q ((List.range ds.length).map g) ρ') : wpComp b ds [] ρ Q := by
  refine wpComp_inv (fun i acc ρ' => acc.reverse = (List.range i).map g ∧ P ρ') ⟨by simp, h0⟩ ?_ ?_
  · rintro i d acc ρ' K hd ⟨h1, h2⟩ _ hs
    refine step i d ρ' K hd h2 fun e ρ'' he hp => hs e ρ'' ⟨?_, hp⟩
    rw [List.reverse_cons, h1, List.range_succ, List.map_append, he]
    rfl
  · rintro acc ρ' ⟨h1, h2⟩
    rw [h1]
    exact fin ρ' h2
end MS
namespace MS
theorem ss {Φ : String → Spec} {s : S} {ss : Ss} {ρ : Rho} {k : Kt} (h : wpS Φ s ρ { k with nx := fun ρ' => wpSs Φ ss ρ' k }) : wpSs Φ (.cons s ss) ρ k := by
  simp only [wpSs]; exact h
theorem sn {Φ : String → Spec} {ρ : Rho} {k : Kt} (h : k.nx ρ) : wpSs Φ .nil ρ k := by
  simp only [wpSs]; exact h
theorem run {T : List PD} {f : String} {p : PD} {n : Nat} {ios : List Bool} {es : List Ety} {Q : Ety → List D → Prop} {X : Ex → Prop} (h : pick T f = some p) (h1 : ios = p.d.ios) (h2 : es.length = p.d.np)
    (w : wpSs (Phi T n) p.d.body (es.map some ++ List.replicate (p.d.n - p.d.np) none) { nx := fun ρ => onO (outsOf p.d.ios es ρ) fun os => Q (sh .none) os, rt := fun v ρ => onO (outsOf p.d.ios es ρ) fun os => Q v os, bk := fun _ => False, ct := fun _ => False, xe := fun x _ => X x }) : Phi T (n + 1) f ios es Q X := by
  rw [Phi_succ h]
  subst h1
  exact ⟨okIo_refl _, h2, w⟩
/-- .. the caller takes back some of the kept parameters -/
theorem runI {T : List PD} {f : String} {p : PD} {n : Nat} {ios : List Bool} {es : List Ety} {Q : Ety → List D → Prop} {X : Ex → Prop} (h : pick T f = some p) (h1 : okIo ios p.d.ios = true) (h2 : es.length = p.d.np)
    (w : wpSs (Phi T n) p.d.body (es.map some ++ List.replicate (p.d.n - p.d.np) none) { nx := fun ρ => onO (outsOf ios es ρ) fun os => Q (sh .none) os, rt := fun v ρ => onO (outsOf ios es ρ) fun os => Q v os, bk := fun _ => False, ct := fun _ => False, xe := fun x _ => X x }) : Phi T (n + 1) f ios es Q X := by
  rw [Phi_succ h]
  exact ⟨h1, h2, w⟩
end MS
namespace MS
@[simp] theorem rg_len2 (a b : Int) : (rgD a b).length = (b - a).toNat := rg_len a b
theorem rgOk_small {a b : Int} (h0 : 0 ≤ a) (h1 : b ≤ 10000000) (h2 : a ≤ 10000000) (h3 : 0 ≤ b) : L2.RgOk a b := .of_le h0 (by omega) (by omega) h3
end MS
namespace MS
theorem wpComp_ints {b : D → Rho → (Option Ety → Rho → Prop) → Prop} {Q : List D → Rho → Prop} {ds : List D} (P : Rho → Prop) (g : Nat → Int) {ρ : Rho} (h0 : P ρ)
    (step : ∀ (i : Nat) (d : D) (ρ' : Rho) (K : Option Ety → Rho → Prop), ds[i]? = some d → P ρ' → (∀ e ρ'', e.d = .int (g i) → P ρ'' → K (some e) ρ'') → b d ρ' K)
    (fin : ∀ ρ', P ρ' → Q (intsD ((List.range ds.length).map g)) ρ') : wpComp b ds [] ρ Q :=
  wpComp_map P (fun i => .int (g i)) h0 step fun ρ' hp => by
    have := fin ρ' hp
    unfold intsD at this
    rw [List.map_map] at this
    exact this
theorem ix_last {l : List Int} (h : l ≠ []) : L2.atI (intsD l) (-1) = some (.int (l.getLast h)) := by
  have hl := List.length_pos_iff.mpr h
  refine atI_neg (by decide) (by simp; omega) ?_
  refine ints_get ?_
  rw [ints_len, List.getLast_eq_getElem]
  have : (-1 + (l.length : Int)).toNat = l.length - 1 := by omega
  rw [this]
  exact List.getElem?_eq_getElem (by omega)
theorem ix_nat {l : List Int} {i : Int} {n : Int} (h0 : 0 ≤ i) (h : l[i.toNat]? = some n) : L2.atI (intsD l) i = some (.int n) := atI_nat h0 (ints_get h)
end MS
namespace MS
theorem mul_l {a b : Int} (h : -(2 ^ 64) < a ∧ a < 2 ^ 64) : MulOk a b := .inl (.inl h)
theorem mul_r {a b : Int} (h : -(2 ^ 64) < b ∧ b < 2 ^ 64) : MulOk a b := .inl (.inr h)
theorem div_ok {a b : Int} (h : 0 < b ∧ b < 1073741824) : DivOk a b := .inl h
theorem md (a b : Int) (h : 0 < b) : 0 ≤ a % b ∧ a % b < b := ⟨Int.emod_nonneg a (by omega), Int.emod_lt_of_pos a h⟩
end MS
namespace MS
theorem ix_mem {l : List Int} {i : Int} (h0 : 0 ≤ i) (h1 : i < l.length) : ∃ m ∈ l, L2.atI (intsD l) i = some (.int m) :=
  ⟨l[i.toNat]'(by omega), List.getElem_mem _, ix_nat h0 (List.getElem?_eq_getElem (by omega))⟩
end MS
namespace MS
/-- items of one kind: what is known of each -/
theorem wpComp_all {b : D → Rho → (Option Ety → Rho → Prop) → Prop} {Q : List D → Rho → Prop} {ds : List D} (P : Rho → Prop) (R : Int → Prop) {ρ : Rho} (h0 : P ρ)
    (step : ∀ (i : Nat) (d : D) (ρ' : Rho) (K : Option Ety → Rho → Prop), ds[i]? = some d → P ρ' → (∀ (x : Int) e ρ'', e.d = .int x → R x → P ρ'' → K (some e) ρ'') → b d ρ' K)
    (fin : ∀ (l : List Int) ρ', l.length = ds.length → (∀ x ∈ l, R x) → P ρ' → Q (intsD l) ρ') : wpComp b ds [] ρ Q := by
  refine wpComp_inv (fun i acc ρ' => ∃ l : List Int, acc.reverse = intsD l ∧ l.length = i ∧ (∀ x ∈ l, R x) ∧ P ρ') ⟨[], rfl, rfl, by simp, h0⟩ ?_ ?_
  · rintro i d acc ρ' K hd ⟨l, h1, h2, h3, h4⟩ _ hs
    refine step i d ρ' K hd h4 fun x e ρ'' he hx hp => hs e ρ'' ⟨l ++ [x], ?_, by simp [h2], ?_, hp⟩
    · rw [List.reverse_cons, h1, he, ints_app]; rfl
    · intro y hy
      rcases List.mem_append.mp hy with z | z
      · exact h3 y z
      · have : y = x := by simpa using z
        rw [this]; exact hx
  · rintro acc ρ' ⟨l, h1, h2, h3, h4⟩
    rw [h1]
    exact fin l ρ' h2 h3 h4
/-- some of the items -/
theorem wpComp_fm {b : D → Rho → (Option Ety → Rho → Prop) → Prop} {Q : List D → Rho → Prop} {ds : List D} (P : Rho → Prop) (g : Nat → Option Int) {ρ : Rho} (h0 : P ρ)
    (step : ∀ (i : Nat) (d : D) (ρ' : Rho) (K : Option Ety → Rho → Prop), ds[i]? = some d → P ρ' → (g i = none → ∀ ρ'', P ρ'' → K none ρ'') → (∀ x, g i = some x → ∀ e ρ'', e.d = .int x → P ρ'' → K (some e) ρ'') → b d ρ' K)
    (fin : ∀ ρ', P ρ' → Q (intsD ((List.range ds.length).filterMap g)) ρ') : wpComp b ds [] ρ Q := by
  refine wpComp_inv (fun i acc ρ' => acc.reverse = intsD ((List.range i).filterMap g) ∧ P ρ') ⟨by simp, h0⟩ ?_ ?_
  · rintro i d acc ρ' K hd ⟨h1, h2⟩ hn hs
    refine step i d ρ' K hd h2 (fun hg ρ'' hp => hn ρ'' ⟨?_, hp⟩) fun x hg e ρ'' he hp => hs e ρ'' ⟨?_, hp⟩
    · rw [h1, List.range_succ, List.filterMap_append]
      simp [hg]
    · rw [List.reverse_cons, h1, List.range_succ, List.filterMap_append, ints_app, he]
      simp [hg]
  · rintro acc ρ' ⟨h1, h2⟩
    rw [h1]
    exact fin ρ' h2
theorem ownB_i {ρ : Rho} {i : Nat} {p : Perm} {xs : List D} (h : ρ.at i = some ⟨.own p, .list xs⟩) : ownB ρ i = true := by unfold ownB; rw [h]
end MS
namespace MS
open PySem
@[simp] theorem ownB_u {ρ : Rho} {i : Nat} : ownB ρ i = (match ρ.at i with | some ⟨.own _, .list _⟩ => true | _ => false) := rfl
@[simp] theorem lstB_u {ρ : Rho} {i : Nat} : lstB ρ i = (match ρ.at i with | some ⟨.own _, .list _⟩ => true | some ⟨.sh, .list _⟩ => true | _ => false) := rfl
@[simp] theorem onOwn_u {ρ : Rho} {i : Nat} {f : Perm → List D → Prop} : onOwn ρ i f = (match ρ.at i with | some ⟨.own p, .list xs⟩ => f p xs | _ => False) := rfl
@[simp] theorem fits_s {d : D} : fits .sh ⟨.sh, d⟩ = True := by simp [fits]
@[simp] theorem fits_o {p : Perm} {d : D} : fits (.own p) ⟨.sh, d⟩ = (isScal d = true) := by simp [fits]
@[simp] theorem fits_oo {p q : Perm} {d : D} : fits p ⟨.own q, d⟩ = (.own q = p) := by simp [fits]
@[simp] theorem onNst_u {ρ : Rho} {i : Nat} {a : A} {f : List D → Nat → List D → Prop} : onNst ρ i a f = (match ρ.at i, evA ρ a with
  | some ⟨.own (.own .sh), .list xs⟩, some j => ∃ n ys, L2.ixN xs.length j = some n ∧ xs[n]? = some (.list ys) ∧ f xs n ys
  | _, _ => False) := rfl
@[simp] theorem pSum_l {p : Perm} {ns : List Int} {Q : Ety → Prop} : pSum [⟨p, .list (intsD ns)⟩] Q = Q (sh (.int ns.sum)) := by
  apply propext
  constructor
  · rintro ⟨ms, h, q⟩
    rw [ints_inj h]; exact q
  · exact fun q => ⟨ns, rfl, q⟩
@[simp] theorem pSum_t {p : Perm} {ns : List Int} {Q : Ety → Prop} : pSum [⟨p, .tuple (intsD ns)⟩] Q = Q (sh (.int ns.sum)) := by
  apply propext
  constructor
  · rintro ⟨ms, h, q⟩
    rw [ints_inj h]; exact q
  · exact fun q => ⟨ns, rfl, q⟩
@[simp] theorem pSorted_l {p : Perm} {ns : List Int} {Q : Ety → Prop} : pSorted [⟨p, .list (intsD ns)⟩] Q = Q (ownL (.list (intsD (ns.mergeSort (· ≤ ·))))) := by
  apply propext
  constructor
  · rintro ⟨ms, h, q⟩
    rw [ints_inj h]; exact q
  · exact fun q => ⟨ns, rfl, q⟩
@[simp] theorem pSorted_t {p : Perm} {ns : List Int} {Q : Ety → Prop} : pSorted [⟨p, .tuple (intsD ns)⟩] Q = Q (ownL (.list (intsD (ns.mergeSort (· ≤ ·))))) := by
  apply propext
  constructor
  · rintro ⟨ms, h, q⟩
    rw [ints_inj h]; exact q
  · exact fun q => ⟨ns, rfl, q⟩
@[simp] theorem exCls_0 {fs : List (String × D)} : exCls (excD ⟨"ScaleError", fs⟩) = some "ScaleError" := exCls_kv (by decide)
@[simp] theorem exCls_1 {fs : List (String × D)} : exCls (excD ⟨"NoPlace", fs⟩) = some "NoPlace" := exCls_kv (by decide)
@[simp] theorem exCls_2 {fs : List (String × D)} : exCls (excD ⟨"TooGreat", fs⟩) = some "TooGreat" := exCls_kv (by decide)
@[simp] theorem exCls_3 {fs : List (String × D)} : exCls (excD ⟨"TooSmall", fs⟩) = some "TooSmall" := exCls_kv (by decide)
@[simp] theorem exCls_4 {fs : List (String × D)} : exCls (excD ⟨"NoOrder", fs⟩) = some "NoOrder" := exCls_kv (by decide)
@[simp] theorem exCls_5 {fs : List (String × D)} : exCls (excD ⟨"NoEnd", fs⟩) = some "NoEnd" := exCls_kv (by decide)
@[simp] theorem exCls_6 {fs : List (String × D)} : exCls (excD ⟨"NoAsk", fs⟩) = some "NoAsk" := exCls_kv (by decide)
@[simp] theorem exCls_7 {fs : List (String × D)} : exCls (excD ⟨"NoDigit", fs⟩) = some "NoDigit" := exCls_kv (by decide)
@[simp] theorem exPl_1 {c n : String} {i : Int} : exPl (excD ⟨c, [(n, .int i)]⟩) = some i := rfl
@[simp] theorem isNon_x {x : Ex} : isNon (excD x) = false := rfl
@[simp] theorem isDct_x {x : Ex} : isDct (excD x) = true := rfl
@[simp] theorem pLt_i {p q : Perm} {a b : Int} {Q : Ety → Prop} : pLt [⟨p, .int a⟩, ⟨q, .int b⟩] Q = Q (sh (.bool (decide (a < b)))) := rfl
@[simp] theorem pLe_i {p q : Perm} {a b : Int} {Q : Ety → Prop} : pLe [⟨p, .int a⟩, ⟨q, .int b⟩] Q = Q (sh (.bool (decide (a ≤ b)))) := rfl
@[simp] theorem pLt_t {p q : Perm} {ns ms : List Int} {Q : Ety → Prop} : pLt [⟨p, .tuple (intsD ns)⟩, ⟨q, .tuple (intsD ms)⟩] Q = Q (sh (.bool (lexLt ns ms))) := by
  apply propext
  constructor
  · rintro ⟨a, b, h1, h2, q⟩
    rw [ints_inj h1, ints_inj h2]; exact q
  · exact fun q => ⟨ns, ms, rfl, rfl, q⟩
@[simp] theorem pLt_l {p q : Perm} {ns ms : List Int} {Q : Ety → Prop} : pLt [⟨p, .list (intsD ns)⟩, ⟨q, .list (intsD ms)⟩] Q = (p ≠ .raw ∧ q ≠ .raw ∧ Q (sh (.bool (lexLt ns ms)))) := by
  apply propext
  constructor
  · rintro ⟨a, b, h1, h2, h3, h4, q⟩
    rw [ints_inj h1, ints_inj h2]; exact ⟨h3, h4, q⟩
  · exact fun ⟨h3, h4, q⟩ => ⟨ns, ms, rfl, rfl, h3, h4, q⟩
@[simp] theorem pLe_t {p q : Perm} {ns ms : List Int} {Q : Ety → Prop} : pLe [⟨p, .tuple (intsD ns)⟩, ⟨q, .tuple (intsD ms)⟩] Q = Q (sh (.bool (!lexLt ms ns))) := by
  apply propext
  constructor
  · rintro ⟨a, b, h1, h2, q⟩
    rw [ints_inj h1, ints_inj h2]; exact q
  · exact fun q => ⟨ns, ms, rfl, rfl, q⟩
@[simp] theorem ints_len2 (ns : List Int) : (intsD ns).length = ns.length := ints_len ns
@[simp] theorem ints_app1 (a : List Int) (n : Int) : intsD a ++ [.int n] = intsD (a ++ [n]) := by rw [ints_app]; rfl
@[simp] theorem ints_app2 (a b : List Int) : intsD a ++ intsD b = intsD (a ++ b) := (ints_app a b).symm
@[simp] theorem ints_rev2 (a : List Int) : (intsD a).reverse = intsD a.reverse := ints_rev a
@[simp] theorem ints_set (a : List Int) (i : Nat) (n : Int) : (intsD a).set i (.int n) = intsD (a.set i n) := by simp [intsD, List.map_set]
theorem rgD_ints2 (a b : Int) : rgD a b = intsD ((List.range (b - a).toNat).map fun i => a + (i : Nat)) := rgD_ints a b
/-- the ints from a to below b -/
def rgL (a b : Int) : List Int := (List.range (b - a).toNat).map fun i => a + (i : Nat)
@[simp] theorem rgD_i (a b : Int) : rgD a b = intsD (rgL a b) := rgD_ints a b
@[simp] theorem rgL_length (a b : Int) : (rgL a b).length = (b - a).toNat := by simp [rgL]
theorem ints_at {a b : Int} {i : Nat} (h : i < (b - a).toNat) : (rgL a b)[i]? = some (a + i) := by
  unfold rgL
  rw [List.getElem?_map, List.getElem?_range h]; rfl
theorem mem_ints2 {a b x : Int} : x ∈ rgL a b ↔ a ≤ x ∧ x < b := by
  unfold rgL
  rw [List.mem_map]
  constructor
  · rintro ⟨i, hi, rfl⟩
    have := List.mem_range.mp hi
    omega
  · intro h
    exact ⟨(x - a).toNat, List.mem_range.mpr (by omega), by omega⟩
theorem rg0 {b : Int} : rgL 0 b = (List.range b.toNat).map fun i : Nat => (i : Int) := by
  unfold rgL
  rw [Int.sub_zero]
  apply List.map_congr_left
  intro i _
  omega
/-- a def's promise; what follows stands as k -/
theorem run2 {T : List PD} {f : String} {p : PD} {n : Nat} {ios : List Bool} {es : List Ety} {Q : Ety → List D → Prop} {X : Ex → Prop} (h : pick T f = some p) (h1 : ios = p.d.ios) (h2 : es.length = p.d.np)
    (w : ∀ k : Kt, (∀ v ρ os, outsOf p.d.ios es ρ = some os → Q v os → k.rt v ρ) → (∀ ρ os, outsOf p.d.ios es ρ = some os → Q (sh .none) os → k.nx ρ) → (∀ x ρ, X x → k.xe x ρ) → wpSs (Phi T n) p.d.body (es.map some ++ List.replicate (p.d.n - p.d.np) none) k) : Phi T (n + 1) f ios es Q X :=
  run h h1 h2 (w _ (fun v ρ os h q => by show onO _ _; rw [h]; exact q) (fun ρ os h q => by show onO _ _; rw [h]; exact q) fun x ρ q => q)
/-- .. the callees' promises kept as one word -/
theorem run3 {T : List PD} {f : String} {p : PD} {n : Nat} {ios : List Bool} {es : List Ety} {Q : Ety → List D → Prop} {X : Ex → Prop} (h : pick T f = some p) (h1 : ios = p.d.ios) (h2 : es.length = p.d.np)
    (w : ∀ Φ : String → Spec, Phi T n = Φ → ∀ k : Kt, (∀ v ρ os, outsOf p.d.ios es ρ = some os → Q v os → k.rt v ρ) → (∀ ρ os, outsOf p.d.ios es ρ = some os → Q (sh .none) os → k.nx ρ) → (∀ x ρ, X x → k.xe x ρ) → wpSs Φ p.d.body (es.map some ++ List.replicate (p.d.n - p.d.np) none) k) : Phi T (n + 1) f ios es Q X :=
  run2 h h1 h2 (w _ rfl)
theorem run3I {T : List PD} {f : String} {p : PD} {n : Nat} {ios : List Bool} {es : List Ety} {Q : Ety → List D → Prop} {X : Ex → Prop} (h : pick T f = some p) (h1 : okIo ios p.d.ios = true) (h2 : es.length = p.d.np)
    (w : ∀ Φ : String → Spec, Phi T n = Φ → ∀ k : Kt, (∀ v ρ os, outsOf ios es ρ = some os → Q v os → k.rt v ρ) → (∀ ρ os, outsOf ios es ρ = some os → Q (sh .none) os → k.nx ρ) → (∀ x ρ, X x → k.xe x ρ) → wpSs Φ p.d.body (es.map some ++ List.replicate (p.d.n - p.d.np) none) k) : Phi T (n + 1) f ios es Q X :=
  runI h h1 h2 (w _ rfl _ (fun v ρ os h q => by show onO _ _; rw [h]; exact q) (fun ρ os h q => by show onO _ _; rw [h]; exact q) fun x ρ q => q)
/-- the callees' promises kept as one word -/
theorem to_ {T : List PD} {Φ : String → Spec} {m : Nat} {f : String} {ios : List Bool} {es : List Ety} {Q : Ety → List D → Prop} {X : Ex → Prop} (h : Phi T m = Φ) (w : Phi T m f ios es Q X) : Φ f ios es Q X := h ▸ w
/-- a loop over ints -/
theorem for_ints {b : D → Rho → Kt → Prop} {k : Kt} {ns : List Int} (I : Nat → Rho → Prop) {ρ : Rho} (h0 : I 0 ρ)
    (step : ∀ (i : Nat) (x : Int) (ρ' : Rho) (K : Kt), ns[i]? = some x → i < ns.length → I i ρ' → (∀ ρ'', I (i + 1) ρ'' → K.nx ρ'') → (∀ v ρ, k.rt v ρ → K.rt v ρ) → (∀ ρ, k.nx ρ → K.bk ρ) → (∀ x ρ, k.xe x ρ → K.xe x ρ) → b (.int x) ρ' K)
    (fin : ∀ ρ', I ns.length ρ' → k.nx ρ') : wpFor b (intsD ns) ρ k := by
  refine wpFor_inv I h0 (fun i d ρ' K hd hI h1 _ h3 h4 h5 => ?_) (fun ρ' h => fin ρ' (by rw [← ints_len ns]; exact h))
  obtain ⟨x, hx, rfl⟩ := ints_of hd
  exact step i x ρ' K hx (List.getElem?_eq_some_iff.mp hx).1 hI h1 (fun v ρ q => by rw [h4]; exact q) (fun ρ q => by rw [h3]; exact q) fun x ρ q => by rw [h5]; exact q
/-- .. over range(a, b) -/
theorem for_rg {b : D → Rho → Kt → Prop} {k : Kt} {lo hi : Int} (I : Nat → Rho → Prop) {ρ : Rho} (h0 : I 0 ρ)
    (step : ∀ (i : Nat) (ρ' : Rho) (K : Kt), i < (hi - lo).toNat → I i ρ' → (∀ ρ'', I (i + 1) ρ'' → K.nx ρ'') → (∀ v ρ, k.rt v ρ → K.rt v ρ) → (∀ ρ, k.nx ρ → K.bk ρ) → (∀ x ρ, k.xe x ρ → K.xe x ρ) → b (.int (lo + i)) ρ' K)
    (fin : ∀ ρ', I (hi - lo).toNat ρ' → k.nx ρ') : wpFor b (intsD (rgL lo hi)) ρ k := by
  refine for_ints I h0 (fun i x ρ' K hx hl hI h1 h2 h3 h4 => ?_) (fun ρ' h => fin ρ' (by simpa using h))
  have hl : i < (hi - lo).toNat := by simpa using hl
  rw [ints_at hl] at hx
  cases hx
  exact step i ρ' K hl hI h1 h2 h3 h4
/-- .. over any items -/
theorem for_any {b : D → Rho → Kt → Prop} {k : Kt} {ds : List D} (I : Nat → Rho → Prop) {ρ : Rho} (h0 : I 0 ρ)
    (step : ∀ (i : Nat) (d : D) (ρ' : Rho) (K : Kt), ds[i]? = some d → i < ds.length → I i ρ' → (∀ ρ'', I (i + 1) ρ'' → K.nx ρ'') → (∀ v ρ, k.rt v ρ → K.rt v ρ) → (∀ ρ, k.nx ρ → K.bk ρ) → (∀ x ρ, k.xe x ρ → K.xe x ρ) → b d ρ' K)
    (fin : ∀ ρ', I ds.length ρ' → k.nx ρ') : wpFor b ds ρ k := by
  refine wpFor_inv I h0 (fun i d ρ' K hd hI h1 _ h3 h4 h5 => ?_) fin
  exact step i d ρ' K hd (List.getElem?_eq_some_iff.mp hd).1 hI h1 (fun v ρ q => by rw [h4]; exact q) (fun ρ q => by rw [h3]; exact q) fun x ρ q => by rw [h5]; exact q
/-- a while loop, by a measure -/
theorem while_m {c : Rho → (Bool → Rho → Prop) → Prop} {b : Rho → Kt → Prop} {k : Kt} (I : Rho → Prop) (m : Rho → Nat)
    (step : ∀ (ρ' : Rho) (Q : Bool → Rho → Prop), I ρ' → (∀ ρ1, (∀ K : Kt, (∀ ρ'', I ρ'' → m ρ'' < m ρ' → K.nx ρ'') → (∀ v ρ, k.rt v ρ → K.rt v ρ) → (∀ ρ, k.nx ρ → K.bk ρ) → (∀ x ρ, k.xe x ρ → K.xe x ρ) → b ρ1 K) → Q true ρ1) → (∀ ρ1, k.nx ρ1 → Q false ρ1) → c ρ' Q) :
    ∀ (n : Nat) (ρ : Rho), I ρ → m ρ < n → wpWhile c b n ρ k
  | 0, ρ, h0, hm => absurd hm (by omega)
  | n + 1, ρ, h0, hm => by
    unfold wpWhile
    refine step ρ _ h0 (fun ρ1 h => ?_) (fun ρ1 h => ?_)
    · rw [if_pos rfl]
      exact h _ (fun ρ'' hI hlt => while_m I m step n ρ'' hI (by omega)) (fun _ _ q => q) (fun _ q => q) fun _ _ q => q
    · rw [if_neg (by decide)]; exact h
theorem while_ex {c : Rho → (Bool → Rho → Prop) → Prop} {b : Rho → Kt → Prop} {k : Kt} {ρ : Rho} (I : Rho → Prop) (m : Rho → Nat) (h0 : I ρ)
    (step : ∀ (ρ' : Rho) (Q : Bool → Rho → Prop), I ρ' → (∀ ρ1, (∀ K : Kt, (∀ ρ'', I ρ'' → m ρ'' < m ρ' → K.nx ρ'') → (∀ v ρ, k.rt v ρ → K.rt v ρ) → (∀ ρ, k.nx ρ → K.bk ρ) → (∀ x ρ, k.xe x ρ → K.xe x ρ) → b ρ1 K) → Q true ρ1) → (∀ ρ1, k.nx ρ1 → Q false ρ1) → c ρ' Q) :
    ∃ n, wpWhile c b n ρ k := ⟨m ρ + 1, while_m I m step _ ρ h0 (by omega)⟩
/-- a comprehension, as it is -/
theorem comp_ints {b : D → Rho → (Option Ety → Rho → Prop) → Prop} {Q : List D → Rho → Prop} {ns : List Int} (P : Rho → Prop) (g : Int → D) {ρ : Rho} (h0 : P ρ)
    (step : ∀ (x : Int) (ρ' : Rho) (K : Option Ety → Rho → Prop), x ∈ ns → P ρ' → (∀ e ρ'', e.d = g x → P ρ'' → K (some e) ρ'') → b (.int x) ρ' K)
    (fin : ∀ ρ', P ρ' → Q (ns.map g) ρ') : wpComp b (intsD ns) [] ρ Q := by
  refine wpComp_inv (fun i acc ρ' => acc.reverse = (ns.take i).map g ∧ P ρ') ⟨by simp, h0⟩ ?_ ?_
  · rintro i d acc ρ' K hd ⟨h1, h2⟩ _ hs
    obtain ⟨x, hx, rfl⟩ := ints_of hd
    refine step x ρ' K (List.mem_of_getElem? hx) h2 fun e ρ'' he hp => hs e ρ'' ⟨?_, hp⟩
    rw [List.reverse_cons, h1, List.take_succ, hx, he]
    simp
  · rintro acc ρ' ⟨h1, h2⟩
    rw [h1, ints_len, List.take_length]
    exact fin ρ' h2
/-- .. some of the items -/
theorem comp_fm {b : D → Rho → (Option Ety → Rho → Prop) → Prop} {Q : List D → Rho → Prop} {ns : List Int} (P : Rho → Prop) (g : Int → Option D) {ρ : Rho} (h0 : P ρ)
    (step : ∀ (x : Int) (ρ' : Rho) (K : Option Ety → Rho → Prop), x ∈ ns → P ρ' → (g x = none → ∀ ρ'', P ρ'' → K none ρ'') → (∀ y, g x = some y → ∀ e ρ'', e.d = y → P ρ'' → K (some e) ρ'') → b (.int x) ρ' K)
    (fin : ∀ ρ', P ρ' → Q (ns.filterMap g) ρ') : wpComp b (intsD ns) [] ρ Q := by
  refine wpComp_inv (fun i acc ρ' => acc.reverse = (ns.take i).filterMap g ∧ P ρ') ⟨by simp, h0⟩ ?_ ?_
  · rintro i d acc ρ' K hd ⟨h1, h2⟩ hn hs
    obtain ⟨x, hx, rfl⟩ := ints_of hd
    refine step x ρ' K (List.mem_of_getElem? hx) h2 (fun hg ρ'' hp => hn ρ'' ⟨?_, hp⟩) fun y hg e ρ'' he hp => hs e ρ'' ⟨?_, hp⟩
    · rw [h1, List.take_succ, hx, List.filterMap_append]
      simp [hg]
    · rw [List.reverse_cons, h1, List.take_succ, hx, List.filterMap_append, he]
      simp [hg]
  · rintro acc ρ' ⟨h1, h2⟩
    rw [h1, ints_len, List.take_length]
    exact fin ρ' h2
/-- .. what is known of each -/
theorem comp_all {b : D → Rho → (Option Ety → Rho → Prop) → Prop} {Q : List D → Rho → Prop} {ds : List D} (P : Rho → Prop) (R : Int → Prop) {ρ : Rho} (h0 : P ρ)
    (step : ∀ (d : D) (ρ' : Rho) (K : Option Ety → Rho → Prop), d ∈ ds → P ρ' → (∀ (x : Int) e ρ'', e.d = .int x → R x → P ρ'' → K (some e) ρ'') → b d ρ' K)
    (fin : ∀ (l : List Int) ρ', l.length = ds.length → (∀ x ∈ l, R x) → P ρ' → Q (intsD l) ρ') : wpComp b ds [] ρ Q :=
  wpComp_all P R h0 (fun i d ρ' K hd => step d ρ' K (List.mem_of_getElem? hd)) fin
theorem div_w {a b : Int} (h : 0 < b) (hb : b < 2 ^ 250) : DivOk a b := by
  by_cases hs : b < 1073741824
  · exact .inl ⟨h, hs⟩
  · refine .inr (L2.wide_div (b := 250) h ?_ (by decide) (by decide))
    have e : (b.natAbs : Int) = b := by omega
    have : (b.natAbs : Int) < (2 : Int) ^ 250 := by rw [e]; exact hb
    exact_mod_cast this
theorem mul_w {a b : Int} (k l : Nat) (ha : -(2 ^ k) < a ∧ a < 2 ^ k) (hb : -(2 ^ l) < b ∧ b < 2 ^ l) (hk : 0 < k := by decide) (hl : 0 < l := by decide) (h : k + l ≤ 5000 := by decide) : MulOk a b := by
  refine .inr (L2.wide_mul (a := k) (b := l) ?_ ?_ hk hl (by omega))
  · have : (a.natAbs : Int) < (2 : Int) ^ k := by omega
    exact_mod_cast this
  · have : (b.natAbs : Int) < (2 : Int) ^ l := by omega
    exact_mod_cast this
@[simp] theorem wpSs_nil {Φ : String → Spec} {ρ : Rho} {k : Kt} : wpSs Φ .nil ρ k = k.nx ρ := by simp only [wpSs]
/-- an item, 0 behind the last -/
def gD (l : List Int) (k : Nat) : Int := l.getD k 0
theorem gD_zero {x : Int} {l : List Int} : gD (x :: l) 0 = x := rfl
theorem gD_succ {x : Int} {l : List Int} {k : Nat} : gD (x :: l) (k + 1) = gD l k := rfl
theorem gD_nil {k : Nat} : gD [] k = 0 := by simp [gD]
theorem gD_get {l : List Int} {k : Nat} (h : k < l.length) : l[k]? = some (gD l k) := by
  unfold gD
  rw [List.getD_eq_getElem?_getD, List.getElem?_eq_getElem h]; rfl
theorem gD_of {l : List Int} {k : Nat} {x : Int} (h : l[k]? = some x) : gD l k = x := by
  unfold gD
  rw [List.getD_eq_getElem?_getD, h]; rfl
theorem gD_out {l : List Int} {k : Nat} (h : l.length ≤ k) : gD l k = 0 := by
  unfold gD
  rw [List.getD_eq_getElem?_getD, List.getElem?_eq_none h]; rfl
theorem gD_mem {l : List Int} {k : Nat} (h : k < l.length) : gD l k ∈ l := List.mem_of_getElem? (gD_get h)
theorem gD_app1 {a b : List Int} {k : Nat} (h : k < a.length) : gD (a ++ b) k = gD a k := gD_of (by rw [List.getElem?_append_left h]; exact gD_get h)
theorem gD_app2 {a b : List Int} {k : Nat} : gD (a ++ b) (a.length + k) = gD b k := by
  unfold gD
  rw [List.getD_eq_getElem?_getD, List.getD_eq_getElem?_getD, List.getElem?_append_right (by omega)]
  congr 2; omega
theorem gD_ext {a b : List Int} (hl : a.length = b.length) (h : ∀ k, k < a.length → gD a k = gD b k) : a = b := by
  apply List.ext_getElem? 
  intro k
  by_cases hk : k < a.length
  · rw [gD_get hk, gD_get (by omega), h k hk]
  · rw [List.getElem?_eq_none (by omega), List.getElem?_eq_none (by omega)]
theorem ix_gD {l : List Int} {k : Nat} (h : k < l.length) : L2.atI (intsD l) (k : Int) = some (.int (gD l k)) := ix_nat (by omega) (by rw [Int.toNat_natCast]; exact gD_get h)
theorem ix_gDi {l : List Int} {k : Int} (h0 : 0 ≤ k) (h : k < l.length) : L2.atI (intsD l) k = some (.int (gD l k.toNat)) := ix_nat h0 (gD_get (by omega))
theorem cut_hi {α : Type} {xs : List α} {h : Int} (h0 : 0 ≤ h) : cutD xs none (some h) = xs.take h.toNat := by
  have e : HT.sIx xs.length xs.length (some h) = min h.toNat xs.length := by unfold HT.sIx; simp only; rw [if_neg (by omega)]
  unfold cutD
  rw [e, HT.sIx_none, List.drop_zero, Nat.sub_zero]
  rw [List.take_eq_take_iff]; omega
theorem cut_lo {α : Type} {xs : List α} {l : Int} (h0 : 0 ≤ l) : cutD xs (some l) none = xs.drop l.toNat := by
  have e : HT.sIx xs.length 0 (some l) = min l.toNat xs.length := by unfold HT.sIx; simp only; rw [if_neg (by omega)]
  unfold cutD
  rw [e, HT.sIx_none, List.take_of_length_le (by rw [List.length_drop]; omega)]
  by_cases hl : l.toNat ≤ xs.length
  · rw [Nat.min_eq_left hl]
  · rw [Nat.min_eq_right (by omega), List.drop_length, List.drop_eq_nil_of_le (by omega)]
theorem cut_all {α : Type} {xs : List α} : cutD xs none none = xs := by
  unfold cutD
  rw [HT.sIx_none, HT.sIx_none]
  simp
theorem cut_both {α : Type} {xs : List α} {l h : Int} (h0 : 0 ≤ l) (h1 : 0 ≤ h) : cutD xs (some l) (some h) = (xs.drop l.toNat).take (h.toNat - l.toNat) := by
  have e : HT.sIx xs.length 0 (some l) = min l.toNat xs.length := by unfold HT.sIx; simp only; rw [if_neg (by omega)]
  have e2 : HT.sIx xs.length xs.length (some h) = min h.toNat xs.length := by unfold HT.sIx; simp only; rw [if_neg (by omega)]
  unfold cutD
  rw [e, e2]
  by_cases hl : l.toNat ≤ xs.length
  · rw [Nat.min_eq_left hl, List.take_eq_take_iff, List.length_drop]
    omega
  · rw [List.drop_eq_nil_of_le (show xs.length ≤ min l.toNat xs.length by omega), List.drop_eq_nil_of_le (by omega)]
    simp
/-! ### == of data -/
mutual
/-- no dict, no truth in it -/
def nbD : D → Bool
  | .none => true
  | .int _ => true
  | .str _ => true
  | .list xs => nbA xs
  | .tuple xs => nbA xs
  | _ => false
def nbA : List D → Bool
  | [] => true
  | x :: xs => nbD x && nbA xs
end
mutual
theorem eqv_iff : ∀ (a b : D), nbD a = true → nbD b = true → (PyData.eqv a b = true ↔ a = b)
  | .none, b, _, hb => by cases b <;> simp_all [PyData.eqv, nbD]
  | .int i, b, _, hb => by cases b <;> simp_all [PyData.eqv, nbD]
  | .str i, b, _, hb => by cases b <;> simp_all [PyData.eqv, nbD]
  | .list xs, b, ha, hb => by
    cases b <;> simp only [PyData.eqv, nbD] at * <;> first | (simp; done) | simp at hb | skip
    rw [eqvAll_iff xs _ ha hb]; simp
  | .tuple xs, b, ha, hb => by
    cases b <;> simp only [PyData.eqv, nbD] at * <;> first | (simp; done) | simp at hb | skip
    rw [eqvAll_iff xs _ ha hb]; simp
  | .bool _, b, ha, hb => by simp [nbD] at ha
  | .dict _, b, ha, hb => by simp [nbD] at ha
theorem eqvAll_iff : ∀ (a b : List D), nbA a = true → nbA b = true → (PyData.eqvAll a b = true ↔ a = b)
  | [], [], _, _ => by simp [PyData.eqvAll]
  | [], _ :: _, _, _ => by simp [PyData.eqvAll]
  | _ :: _, [], _, _ => by simp [PyData.eqvAll]
  | x :: xs, y :: ys, ha, hb => by
    simp only [nbA, Bool.and_eq_true] at ha hb
    simp only [PyData.eqvAll, Bool.and_eq_true]
    rw [eqv_iff x y ha.1 hb.1, eqvAll_iff xs ys ha.2 hb.2]
    simp
end
theorem eqv_self {a : D} (h : nbD a = true) : PyData.eqv a a = true := (eqv_iff a a h h).mpr rfl
theorem eqv_ne {a b : D} (ha : nbD a = true) (hb : nbD b = true) (h : a ≠ b) : PyData.eqv a b = false := by
  cases e : PyData.eqv a b with
  | false => rfl
  | true => exact absurd ((eqv_iff a b ha hb).mp e) h
@[simp] theorem nbD_ints {l : List Int} : nbA (intsD l) = true := by
  induction l with
  | nil => rfl
  | cons x l ih => simp [nbA, nbD, ih]
@[simp] theorem nbD_int {n : Int} : nbD (.int n) = true := rfl
@[simp] theorem nbD_none : nbD .none = true := rfl
@[simp] theorem nbD_str {s : Str} : nbD (.str s) = true := rfl
@[simp] theorem nbD_list {l : List D} : nbD (.list l) = nbA l := by simp [nbD]
@[simp] theorem nbD_tup {l : List D} : nbD (.tuple l) = nbA l := by simp [nbD]
@[simp] theorem nbA_nil : nbA [] = true := rfl
@[simp] theorem nbA_cons {x : D} {l : List D} : nbA (x :: l) = (nbD x && nbA l) := by simp [nbA]
theorem nbA_all {l : List D} (h : ∀ x ∈ l, nbD x = true) : nbA l = true := by
  induction l with
  | nil => rfl
  | cons x l ih => simp [h x (by simp), ih fun y hy => h y (by simp [hy])]
@[simp] theorem nbA_app {a b : List D} : nbA (a ++ b) = (nbA a && nbA b) := by
  induction a with
  | nil => simp
  | cons x a ih => simp [ih, Bool.and_assoc]
theorem eqv_lst {a b : List D} (ha : nbA a = true) (hb : nbA b = true) : (PyData.eqv (.list a) (.list b) = true) = (a = b) := by
  rw [eqv_iff _ _ (by simpa using ha) (by simpa using hb)]; simp
theorem eqv_tup {a b : List D} (ha : nbA a = true) (hb : nbA b = true) : (PyData.eqv (.tuple a) (.tuple b) = true) = (a = b) := by
  rw [eqv_iff _ _ (by simpa using ha) (by simpa using hb)]; simp
theorem shN_two {k : Nat} {a b : D} (ha : shN k a) (hb : shN k b) : shN (k + 1) (.tuple [a, b]) := shN_tup fun d hd => by
  rcases List.mem_cons.mp hd with rfl | hd
  · exact ha
  · rcases List.mem_cons.mp hd with rfl | hd
    · exact hb
    · simp at hd
theorem shN_tints {k : Nat} {l : List Int} : shN (k + 1) (.tuple (intsD l)) := shN_tup shN_ints
theorem shN_lints {k : Nat} {l : List Int} : shN (k + 1) (.list (intsD l)) := shN_lst shN_ints
theorem rev_at {hi : Int} {i : Nat} {x : Int} (h : (rgL 0 hi).reverse[i]? = some x) : i < hi.toNat ∧ x = hi - 1 - i := by
  have hl : i < (rgL 0 hi).reverse.length := (List.getElem?_eq_some_iff.mp h).1
  rw [List.length_reverse, rgL_length] at hl
  rw [List.getElem?_reverse (by rw [rgL_length]; omega), rgL_length, ints_at (by omega)] at h
  have := Option.some.inj h
  omega
/-- .. over reversed(range(n)) -/
theorem for_rev {b : D → Rho → Kt → Prop} {k : Kt} {hi : Int} (I : Nat → Rho → Prop) {ρ : Rho} (h0 : I 0 ρ)
    (step : ∀ (i : Nat) (ρ' : Rho) (K : Kt), i < hi.toNat → I i ρ' → (∀ ρ'', I (i + 1) ρ'' → K.nx ρ'') → (∀ v ρ, k.rt v ρ → K.rt v ρ) → (∀ ρ, k.nx ρ → K.bk ρ) → (∀ x ρ, k.xe x ρ → K.xe x ρ) → b (.int (hi - 1 - i)) ρ' K)
    (fin : ∀ ρ', I hi.toNat ρ' → k.nx ρ') : wpFor b (intsD (rgL 0 hi).reverse) ρ k := by
  refine for_ints I h0 (fun i x ρ' K hx hl hI h1 h2 h3 h4 => ?_) (fun ρ' h => fin ρ' (by simpa using h))
  obtain ⟨hi', rfl⟩ := rev_at hx
  exact step i ρ' K hi' hI h1 h2 h3 h4
/-- a comprehension: of each item what is known by its place -/
theorem comp_ix {b : D → Rho → (Option Ety → Rho → Prop) → Prop} {Q : List D → Rho → Prop} {ds : List D} (P : Rho → Prop) (R : Nat → Int → Prop) {ρ : Rho} (h0 : P ρ)
    (step : ∀ (i : Nat) (d : D) (ρ' : Rho) (K : Option Ety → Rho → Prop), ds[i]? = some d → i < ds.length → P ρ' → (∀ (x : Int) e ρ'', e.d = .int x → R i x → P ρ'' → K (some e) ρ'') → b d ρ' K)
    (fin : ∀ (l : List Int) ρ', l.length = ds.length → (∀ i, i < l.length → R i (gD l i)) → P ρ' → Q (intsD l) ρ') : wpComp b ds [] ρ Q := by
  refine wpComp_inv (fun i acc ρ' => ∃ l : List Int, acc.reverse = intsD l ∧ l.length = i ∧ (∀ j, j < i → R j (gD l j)) ∧ P ρ') ⟨[], rfl, rfl, by simp, h0⟩ ?_ ?_
  · rintro i d acc ρ' K hd ⟨l, h1, h2, h3, h4⟩ _ hs
    refine step i d ρ' K hd (List.getElem?_eq_some_iff.mp hd).1 h4 fun x e ρ'' he hx hp => hs e ρ'' ⟨l ++ [x], ?_, by simp [h2], ?_, hp⟩
    · rw [List.reverse_cons, h1, he, ints_app]; rfl
    · intro j hj
      by_cases hlt : j < i
      · rw [gD_app1 (by omega)]; exact h3 j hlt
      · have : j = i := by omega
        subst this
        have e0 := gD_app2 (a := l) (b := [x]) (k := 0)
        rw [Nat.add_zero, h2] at e0
        rw [e0]; exact hx
  · rintro acc ρ' ⟨l, h1, h2, h3, h4⟩
    rw [h1]
    exact fin l ρ' h2 (fun i hi => h3 i (by omega)) h4
theorem zip_at {a b : List Int} {i : Nat} {d : D} (h : (zipD (intsD a) (intsD b))[i]? = some d) : i < a.length ∧ i < b.length ∧ d = .tuple [.int (gD a i), .int (gD b i)] := by
  obtain ⟨p, q, hp, hq, rfl⟩ := zip_get h
  obtain ⟨x, hx, rfl⟩ := ints_of hp
  obtain ⟨y, hy, rfl⟩ := ints_of hq
  rw [gD_of hx, gD_of hy]
  exact ⟨(List.getElem?_eq_some_iff.mp hx).1, (List.getElem?_eq_some_iff.mp hy).1, rfl⟩
theorem enum_at {a : List Int} {i : Nat} {d : D} (h : (enumD 0 (intsD a))[i]? = some d) : i < a.length ∧ d = .tuple [.int i, .int (gD a i)] := by
  obtain ⟨p, hp, rfl⟩ := enum_get h
  obtain ⟨x, hx, rfl⟩ := ints_of hp
  rw [gD_of hx, Nat.zero_add]
  exact ⟨(List.getElem?_eq_some_iff.mp hx).1, rfl⟩
@[simp] theorem zipD_len (a b : List D) : (zipD a b).length = min a.length b.length := zip_len a b
@[simp] theorem enumD_len (n : Nat) (a : List D) : (enumD n a).length = a.length := enum_len n a
theorem gD_map {f : Nat → Int} {n k : Nat} (h : k < n) : gD ((List.range n).map f) k = f k := gD_of (by rw [List.getElem?_map, List.getElem?_range h]; rfl)
theorem gD_mapI {f : Int → Int} {l : List Int} {k : Nat} (h : k < l.length) : gD (l.map f) k = f (gD l k) := gD_of (by rw [List.getElem?_map, gD_get h]; rfl)
@[simp] theorem rep_flat {k : Nat} {d : D} : (List.replicate k [d]).flatten = List.replicate k d := by
  induction k with
  | zero => rfl
  | succ k ih => rw [List.replicate_succ, List.flatten_cons, ih]; rfl
@[simp] theorem rep_ints {k : Nat} {x : Int} : List.replicate k (PyData.int x) = intsD (List.replicate k x) := by simp [intsD]
/-- .. over a few written items -/
theorem for_mem {b : D → Rho → Kt → Prop} {k : Kt} {ds : List D} (I : Rho → Prop) {ρ : Rho} (h0 : I ρ)
    (step : ∀ (d : D) (ρ' : Rho) (K : Kt), d ∈ ds → I ρ' → (∀ ρ'', I ρ'' → K.nx ρ'') → (∀ v ρ, k.rt v ρ → K.rt v ρ) → (∀ ρ, k.nx ρ → K.bk ρ) → (∀ x ρ, k.xe x ρ → K.xe x ρ) → b d ρ' K)
    (fin : ∀ ρ', I ρ' → k.nx ρ') : wpFor b ds ρ k :=
  for_any (fun _ => I) h0 (fun i d ρ' K hd _ hI h1 h2 h3 h4 => step d ρ' K (List.mem_of_getElem? hd) hI h1 h2 h3 h4) fin
/-! ### dicts with whole numbers as keys -/
theorem dI_inj1 : ∀ {a b : List (Int × D)}, a.map (fun p => (PyData.int p.1, p.2)) = b.map (fun p => (PyData.int p.1, p.2)) → a = b
  | [], [], _ => rfl
  | [], _ :: _, h => by simp at h
  | _ :: _, [], h => by simp at h
  | p :: r, q :: t, h => by
    simp only [List.map_cons, List.cons.injEq, Prod.mk.injEq, PyData.int.injEq] at h
    rw [dI_inj1 h.2, Prod.ext h.1.1 h.1.2]
theorem dI_inj0 {a b : List (Int × D)} (h : dI a = dI b) : a = b := dI_inj1 (PyData.dict.inj h)
@[simp] theorem dI_inj {a b : List (Int × D)} : dI a = dI b ↔ a = b := ⟨dI_inj0, fun h => h ▸ rfl⟩
@[simp] theorem onDI_u {ρ : Rho} {i : Nat} {f : List (Int × D) → Prop} : onDI ρ i f = (∃ hk, (ρ.at i = some (ownL (dI hk)) ∨ ρ.at i = some (sh (dI hk))) ∧ f hk) := rfl
@[simp] theorem onDo_u {ρ : Rho} {i : Nat} {f : List (Int × D) → Prop} : onDo ρ i f = (∃ hk, ρ.at i = some (ownL (dI hk)) ∧ f hk) := rfl
@[simp] theorem onDO_u {ρ : Rho} {i : Nat} {f : List (Int × D) → Prop} : onDO ρ i f = (∃ hk, ρ.at i = some ⟨.own (.own .sh), dI hk⟩ ∧ f hk) := rfl
@[simp] theorem flatD_t {ns : List Int} : flatD (.tuple (intsD ns)) = true := by
  show (intsD ns).all isScal = true
  simp [intsD]
@[simp] theorem flatD_i {n : Int} : flatD (.int n) = true := rfl
@[simp] theorem flatD_b {n : Bool} : flatD (.bool n) = true := rfl
@[simp] theorem flatD_tn : flatD (.tuple []) = true := rfl
@[simp] theorem isDct_dI {hk : List (Int × D)} : isDct (dI hk) = true := rfl
/-- rows as data -/
def pD (P : List (Int × List Int)) : List (Int × D) := P.map fun p => (p.1, .tuple (intsD p.2))
@[simp] theorem pD_nil : pD [] = [] := rfl
@[simp] theorem pD_len {P : List (Int × List Int)} : (pD P).length = P.length := by simp [pD]
@[simp] theorem pD_keys {P : List (Int × List Int)} : (pD P).map (·.1) = P.map (·.1) := by simp [pD, Function.comp_def]
theorem pD_flat {P : List (Int × List Int)} : ((pD P).all fun p => flatD p.2) = true := by
  unfold pD
  rw [List.all_map]
  refine List.all_eq_true.mpr fun p _ => ?_
  exact flatD_t
@[simp] theorem gI_pD {n : Int} : ∀ {P : List (Int × List Int)}, gI (pD P) n = (gI P n).map fun r => .tuple (intsD r)
  | [] => rfl
  | p :: r => by
    show gI ((p.1, .tuple (intsD p.2)) :: pD r) n = _
    by_cases e : p.1 = n
    · rw [gI_pos (p := (p.1, PyData.tuple (intsD p.2))) (r := pD r) e, gI_pos (r := r) e]; rfl
    · rw [gI_neg (p := (p.1, PyData.tuple (intsD p.2))) (r := pD r) e, gI_neg (r := r) e]; exact gI_pD
theorem pI_pD {n : Int} {r : List Int} {P : List (Int × List Int)} : pI (pD P) n (.tuple (intsD r)) = pD (pI P n r) := by
  unfold pI
  rw [gI_any, gI_any, gI_pD, Option.isSome_map]
  by_cases h : (gI P n).isSome = true
  · rw [if_pos h, if_pos h]
    unfold pD
    rw [List.map_map, List.map_map]
    refine List.map_congr_left fun p _ => ?_
    simp only [Function.comp]
    by_cases e : p.1 = n
    · rw [if_pos e, if_pos e]
    · rw [if_neg e, if_neg e]
  · rw [if_neg h, if_neg h]
    simp [pD]
theorem dropI_pD {n : Int} {P : List (Int × List Int)} : dropI (pD P) n = pD (dropI P n) := by
  unfold dropI pD
  rw [List.filter_map]
  rfl
theorem pI_le {α : Type} {n : Int} {d : α} {P : List (Int × α)} : (pI P n d).length ≤ P.length + 1 := by
  unfold pI
  split
  · simp
  · simp
theorem pI_all {α : Type} {n : Int} {d : α} {P : List (Int × α)} {R : α → Prop} (h : ∀ p ∈ P, R p.2) (hd : R d) : ∀ p ∈ pI P n d, R p.2 := by
  unfold pI
  split
  · intro p hp
    obtain ⟨q, hq, rfl⟩ := List.mem_map.mp hp
    split
    · exact hd
    · exact h q hq
  · intro p hp
    rcases List.mem_append.mp hp with z | z
    · exact h p z
    · have : p = (n, d) := by simpa using z
      rw [this]; exact hd
theorem dropI_le {α : Type} {n : Int} {P : List (Int × α)} : (dropI P n).length ≤ P.length := List.length_filter_le _ _
theorem dropI_all {α : Type} {n : Int} {P : List (Int × α)} {R : α → Prop} (h : ∀ p ∈ P, R p.2) : ∀ p ∈ dropI P n, R p.2 := fun p hp => h p (List.mem_filter.mp hp).1
theorem gI_in {α : Type} {n : Int} {P : List (Int × α)} (h : n ∈ P.map (·.1)) : ∃ d, gI P n = some d := by
  obtain ⟨p, hp, rfl⟩ := List.mem_map.mp h
  exact gI_key hp
theorem gI_all {α : Type} {n : Int} {P : List (Int × α)} {R : α → Prop} (h : ∀ p ∈ P, R p.2) {d : α} (g : gI P n = some d) : R d := by
  obtain ⟨p, hp, rfl⟩ := gI_mem g
  exact h p hp
end MS
namespace MS
open PySem
def top (i : Nat) : PySem.Stmt := PySem.Challenge.pw_mixedscales_k54_rounds_spoilt_twice.main.body.getD i (.Pass ⟨0, 0, 0, 0⟩)
def u_rows_many_1_0 : Ss := .cons (.aug 1 .mul (.var 2)) .nil
def u_rows_many_0_2 : Ss := .cons (.ret (.mv 1)) .nil
def u_rows_many_0_1 : Ss := .cons (.for_ (.name 2) (.seq (.var 0)) u_rows_many_1_0) u_rows_many_0_2
def u_rows_many_0_0 : Ss := .cons (.set 1 (.int 1)) u_rows_many_0_1
def d_rows_many : Def := ⟨1, 3, [false], u_rows_many_0_0⟩
def u_is_next_0_1 : Ss := .cons (.ret (.and (.prim .eq (.cons (.prim .len (.cons (.pk 0) .nil)) (.cons (.prim .len (.cons (.pk 1) .nil)) .nil))) (.prim .eq (.cons (.prim .sum (.cons (.pk 2) .nil)) (.cons (.int 1) .nil))))) .nil
def u_is_next_0_0 : Ss := .cons (.set 2 (.comp (.tup [3, 4]) (.zip (.var 0) (.var 1)) (.bl true) (.frz (.prim .abs (.cons (.prim .sub (.cons (.pk 3) (.cons (.pk 4) .nil))) .nil))))) u_is_next_0_1
def d_is_next : Def := ⟨2, 5, [false, false], u_is_next_0_0⟩
def u_round_shown_2_0 : Ss := .cons (.ret (.tup (.cons (.bl false) (.cons (.bl false) .nil)))) .nil
def u_round_shown_1_0 : Ss := .cons (.ife (.or (.prim .ne (.cons (.prim .len (.cons (.pk 2) .nil)) (.cons (.prim .len (.cons (.pk 0) .nil)) .nil))) (.prim .ne (.cons (.comp (.tup [3, 4]) (.enum (.var 2)) (.not (.chain .le .lt (.int 0) (.var 4) (.prim .ix (.cons (.pk 0) (.cons (.pk 3) .nil))))) (.var 3)) (.cons (.lst .nil) .nil)))) u_round_shown_2_0 .nil) .nil
def u_round_shown_3_0 : Ss := .cons (.ret (.tup (.cons (.bl false) (.cons (.bl false) .nil)))) .nil
def u_round_shown_4_0 : Ss := .cons (.ret (.tup (.cons (.bl false) (.cons (.bl false) .nil)))) .nil
def u_round_shown_0_3 : Ss := .cons (.ret (.tup (.cons (.bl true) (.cons (.or (.prim .eq (.cons (.prim .len (.cons (.pk 1) .nil)) (.cons (.int 1) .nil))) (.call "is_next" (.cons (.prim .ix (.cons (.pk 1) (.cons (.prim .neg (.cons (.int 1) .nil)) .nil))) (.cons (.prim .ix (.cons (.pk 1) (.cons (.int 0) .nil))) .nil)))) .nil)))) .nil
def u_round_shown_0_2 : Ss := .cons (.ife (.prim .ne (.cons (.comp (.name 3) (.rng2 (.int 1) (.prim .len (.cons (.pk 1) .nil))) (.not (.call "is_next" (.cons (.prim .ix (.cons (.pk 1) (.cons (.prim .sub (.cons (.pk 3) (.cons (.int 1) .nil))) .nil))) (.cons (.prim .ix (.cons (.pk 1) (.cons (.pk 3) .nil))) .nil)))) (.var 3)) (.cons (.lst .nil) .nil))) u_round_shown_4_0 .nil) u_round_shown_0_3
def u_round_shown_0_1 : Ss := .cons (.ife (.or (.prim .ne (.cons (.prim .len (.cons (.pk 1) .nil)) (.cons (.call "rows_many" (.cons (.var 0) .nil)) .nil))) (.prim .ne (.cons (.lsetT (.var 1)) (.cons (.prim .len (.cons (.pk 1) .nil)) .nil)))) u_round_shown_3_0 .nil) u_round_shown_0_2
def u_round_shown_0_0 : Ss := .cons (.for_ (.name 2) (.seq (.var 1)) u_round_shown_1_0) u_round_shown_0_1
def d_round_shown : Def := ⟨2, 5, [false, false], u_round_shown_0_0⟩
def u__law_pile_0_0 : Ss := .cons (.ret (.lstR (.cons (.var 0) (.cons (.int 0) (.cons (.int 0) (.cons (.int 37199) (.cons (.int 0) .nil))))))) .nil
def d__law_pile : Def := ⟨1, 1, [false], u__law_pile_0_0⟩
def u__law_next_1_2 : Ss := .cons (.ret (.mv 2)) .nil
def u__law_next_1_1 : Ss := .cons (.setix 0 (.int 2) (.prim .fdiv (.cons (.prim .ixr (.cons (.pk 0) (.cons (.int 2) .nil))) (.cons (.pk 1) .nil)))) u__law_next_1_2
def u__law_next_1_0 : Ss := .cons (.set 2 (.prim .mod (.cons (.prim .ixr (.cons (.pk 0) (.cons (.int 2) .nil))) (.cons (.pk 1) .nil)))) u__law_next_1_1
def u__law_next_3_1 : Ss := .cons (.ret (.prim .mod (.cons (.prim .abs (.cons (.pk 3) .nil)) (.cons (.pk 1) .nil)))) .nil
def u__law_next_3_0 : Ss := .cons (.setix 0 (.int 2) (.prim .fdiv (.cons (.prim .abs (.cons (.pk 3) .nil)) (.cons (.pk 1) .nil)))) u__law_next_3_1
def u__law_next_2_4 : Ss := .cons (.ret (.prim .mod (.cons (.pk 3) (.cons (.pk 1) .nil)))) .nil
def u__law_next_2_3 : Ss := .cons (.ife (.prim .ge (.cons (.prim .abs (.cons (.pk 3) .nil)) (.cons (.prim .pow (.cons (.int 10) (.cons (.int 18) .nil))) .nil))) u__law_next_3_0 .nil) u__law_next_2_4
def u__law_next_2_2 : Ss := .cons (.setix 0 (.int 3) (.prim .mod (.cons (.prim .add (.cons (.prim .mul (.cons (.prim .ixr (.cons (.pk 0) (.cons (.int 3) .nil))) (.cons (.int 69069) .nil))) (.cons (.pk 3) .nil))) (.cons (.int 2147483629) .nil)))) u__law_next_2_3
def u__law_next_2_1 : Ss := .cons (.setix 0 (.int 1) (.frz (.prim .add (.cons (.prim .ixr (.cons (.pk 0) (.cons (.int 1) .nil))) (.cons (.int 1) .nil))))) u__law_next_2_2
def u__law_next_2_0 : Ss := .cons (.set 3 (.prim .ix (.cons (.prim .ixr (.cons (.pk 0) (.cons (.int 0) .nil))) (.cons (.prim .ixr (.cons (.pk 0) (.cons (.int 1) .nil))) .nil)))) u__law_next_2_1
def u__law_next_0_4 : Ss := .cons (.ret (.prim .mod (.cons (.prim .fdiv (.cons (.prim .ixr (.cons (.pk 0) (.cons (.int 3) .nil))) (.cons (.int 16) .nil))) (.cons (.pk 1) .nil)))) .nil
def u__law_next_0_3 : Ss := .cons (.setix 0 (.int 3) (.prim .mod (.cons (.prim .add (.cons (.prim .add (.cons (.prim .mul (.cons (.prim .ixr (.cons (.pk 0) (.cons (.int 3) .nil))) (.cons (.prim .ixr (.cons (.pk 0) (.cons (.int 3) .nil))) .nil))) (.cons (.prim .mul (.cons (.int 40014) (.cons (.prim .ixr (.cons (.pk 0) (.cons (.int 4) .nil))) .nil))) .nil))) (.cons (.int 977) .nil))) (.cons (.int 2147483629) .nil)))) u__law_next_0_4
def u__law_next_0_2 : Ss := .cons (.setix 0 (.int 4) (.frz (.prim .add (.cons (.prim .ixr (.cons (.pk 0) (.cons (.int 4) .nil))) (.cons (.int 1) .nil))))) u__law_next_0_3
def u__law_next_0_1 : Ss := .cons (.ife (.prim .lt (.cons (.prim .ixr (.cons (.pk 0) (.cons (.int 1) .nil))) (.cons (.prim .len (.cons (.prim .ixr (.cons (.pk 0) (.cons (.int 0) .nil))) .nil)) .nil))) u__law_next_2_0 .nil) u__law_next_0_2
def u__law_next_0_0 : Ss := .cons (.ife (.prim .gt (.cons (.prim .ixr (.cons (.pk 0) (.cons (.int 2) .nil))) (.cons (.int 0) .nil))) u__law_next_1_0 .nil) u__law_next_0_1
def d__law_next : Def := ⟨2, 4, [true, false], u__law_next_0_0⟩
def u__law_many_1_0 : Ss := .cons (.set 1 (.prim .mul (.cons (.pk 1) (.cons (.pk 2) .nil)))) .nil
def u__law_many_0_2 : Ss := .cons (.ret (.mv 1)) .nil
def u__law_many_0_1 : Ss := .cons (.for_ (.name 2) (.seq (.var 0)) u__law_many_1_0) u__law_many_0_2
def u__law_many_0_0 : Ss := .cons (.set 1 (.int 1)) u__law_many_0_1
def d__law_many : Def := ⟨1, 3, [false], u__law_many_0_0⟩
def u__law_row_1_2 : Ss := .cons (.set 3 (.prim .mul (.cons (.pk 3) (.cons (.pk 4) .nil)))) .nil
def u__law_row_1_1 : Ss := .cons (.app 2 (.frz (.prim .min2 (.cons (.pk 5) (.cons (.prim .sub (.cons (.prim .sub (.cons (.prim .mul (.cons (.int 2) (.cons (.pk 4) .nil))) (.cons (.int 1) .nil))) (.cons (.pk 5) .nil))) .nil))))) u__law_row_1_2
def u__law_row_1_0 : Ss := .cons (.set 5 (.prim .mod (.cons (.prim .fdiv (.cons (.pk 1) (.cons (.pk 3) .nil))) (.cons (.prim .mul (.cons (.int 2) (.cons (.pk 4) .nil))) .nil)))) u__law_row_1_1
def u__law_row_0_3 : Ss := .cons (.ret (.prim .tuple (.cons (.pk 2) .nil))) .nil
def u__law_row_0_2 : Ss := .cons (.for_ (.name 4) (.seq (.var 0)) u__law_row_1_0) u__law_row_0_3
def u__law_row_0_1 : Ss := .cons (.set 3 (.int 1)) u__law_row_0_2
def u__law_row_0_0 : Ss := .cons (.set 2 (.lst .nil)) u__law_row_0_1
def d__law_row : Def := ⟨2, 6, [false, false], u__law_row_0_0⟩
def u__law_bases_2_0 : Ss := .cons (.app 1 (.var 3)) .nil
def u__law_bases_1_1 : Ss := .cons (.ife (.prim .le (.cons (.prim .mul (.cons (.callL "_law_many" 1) (.cons (.pk 3) .nil))) (.cons (.int 200) .nil))) u__law_bases_2_0 .nil) .nil
def u__law_bases_1_0 : Ss := .cons (.set 3 (.prim .add (.cons (.int 2) (.cons (.call "_law_next" (.cons (.pk 0) (.cons (.prim .ix (.cons (.lst (.cons (.int 2) (.cons (.int 8) .nil))) (.cons (.call "_law_next" (.cons (.pk 0) (.cons (.int 2) .nil))) .nil))) .nil))) .nil)))) u__law_bases_1_1
def u__law_bases_0_2 : Ss := .cons (.ret (.prim .tuple (.cons (.pk 1) .nil))) .nil
def u__law_bases_0_1 : Ss := .cons (.for_ (.name 2) (.rng1 (.call "_law_next" (.cons (.pk 0) (.cons (.int 6) .nil)))) u__law_bases_1_0) u__law_bases_0_2
def u__law_bases_0_0 : Ss := .cons (.set 1 (.lst .nil)) u__law_bases_0_1
def d__law_bases : Def := ⟨1, 4, [true], u__law_bases_0_0⟩
def u__law_beside_0_1 : Ss := .cons (.ret (.prim .eq (.cons (.prim .sum (.cons (.pk 2) .nil)) (.cons (.int 1) .nil)))) .nil
def u__law_beside_0_0 : Ss := .cons (.set 2 (.comp (.tup [3, 4]) (.zip (.var 0) (.var 1)) (.bl true) (.frz (.prim .abs (.cons (.prim .sub (.cons (.pk 3) (.cons (.pk 4) .nil))) .nil))))) u__law_beside_0_1
def d__law_beside : Def := ⟨2, 5, [false, false], u__law_beside_0_0⟩
def u__law_due_2_0 : Ss := .cons (.ret (.tup (.cons (.bl false) (.cons (.bl false) .nil)))) .nil
def u__law_due_3_0 : Ss := .cons (.ret (.tup (.cons (.bl false) (.cons (.bl false) .nil)))) .nil
def u__law_due_1_1 : Ss := .cons (.ife (.prim .ne (.cons (.comp (.name 3) (.rng1 (.prim .len (.cons (.pk 0) .nil))) (.not (.chain .le .lt (.int 0) (.prim .ix (.cons (.pk 2) (.cons (.pk 3) .nil))) (.prim .ix (.cons (.pk 0) (.cons (.pk 3) .nil))))) (.var 3)) (.cons (.lst .nil) .nil))) u__law_due_3_0 .nil) .nil
def u__law_due_1_0 : Ss := .cons (.ife (.prim .ne (.cons (.prim .len (.cons (.pk 2) .nil)) (.cons (.prim .len (.cons (.pk 0) .nil)) .nil))) u__law_due_2_0 .nil) u__law_due_1_1
def u__law_due_4_0 : Ss := .cons (.ret (.tup (.cons (.bl false) (.cons (.bl false) .nil)))) .nil
def u__law_due_5_0 : Ss := .cons (.ret (.tup (.cons (.bl false) (.cons (.bl false) .nil)))) .nil
def u__law_due_0_3 : Ss := .cons (.ret (.tup (.cons (.bl true) (.cons (.or (.prim .eq (.cons (.prim .len (.cons (.pk 1) .nil)) (.cons (.int 1) .nil))) (.call "_law_beside" (.cons (.prim .ix (.cons (.pk 1) (.cons (.prim .neg (.cons (.int 1) .nil)) .nil))) (.cons (.prim .ix (.cons (.pk 1) (.cons (.int 0) .nil))) .nil)))) .nil)))) .nil
def u__law_due_0_2 : Ss := .cons (.ife (.prim .ne (.cons (.comp (.tup [4, 5]) (.zip (.var 1) (.frz (.prim (.sl true false) (.cons (.pk 1) (.cons (.int 1) .nil))))) (.not (.call "_law_beside" (.cons (.var 4) (.cons (.var 5) .nil)))) (.int 1)) (.cons (.lst .nil) .nil))) u__law_due_5_0 .nil) u__law_due_0_3
def u__law_due_0_1 : Ss := .cons (.ife (.or (.prim .ne (.cons (.prim .len (.cons (.pk 1) .nil)) (.cons (.call "_law_many" (.cons (.var 0) .nil)) .nil))) (.prim .ne (.cons (.lsetT (.var 1)) (.cons (.prim .len (.cons (.pk 1) .nil)) .nil)))) u__law_due_4_0 .nil) u__law_due_0_2
def u__law_due_0_0 : Ss := .cons (.for_ (.name 2) (.seq (.var 1)) u__law_due_1_0) u__law_due_0_1
def d__law_due : Def := ⟨2, 6, [false, false], u__law_due_0_0⟩
def u__law_bent_1_0 : Ss := .cons (.ret (.mv 3)) .nil
def u__law_bent_2_1 : Ss := .cons (.ins 3 (.nm 5) (.prim .ix (.cons (.pk 2) (.cons (.call "_law_next" (.cons (.pk 0) (.cons (.frz (.prim .len (.cons (.pk 2) .nil))) .nil))) .nil)))) .nil
def u__law_bent_2_0 : Ss := .cons (.expr (.popAt 3 (.var 4))) u__law_bent_2_1
def u__law_bent_3_0 : Ss := .cons (.swpl 3 (.nm 4) (.nm 5)) .nil
def u__law_bent_4_1 : Ss := .cons (.setsl 3 (.nm 7) (.add (.nm 8) (.lit 1)) (.prim .bk (.cons (.cut (.cons (.pk 3) .nil) (.var 7) (.prim .add (.cons (.pk 8) (.cons (.int 1) .nil)))) .nil))) .nil
def u__law_bent_4_0 : Ss := .cons (.unp [7, 8] (.prim .sorted (.cons (.lst (.cons (.var 4) (.cons (.var 5) .nil))) .nil))) u__law_bent_4_1
def u__law_bent_5_2 : Ss := .cons (.setix 3 (.var 5) (.frz (.prim .add (.cons (.prim .add (.cons (.prim (.sl false true) (.cons (.prim .ix (.cons (.pk 3) (.cons (.pk 5) .nil))) (.cons (.pk 9) .nil))) (.cons (.tup (.cons (.prim .sub (.cons (.prim .ix (.cons (.prim .ix (.cons (.pk 3) (.cons (.pk 5) .nil))) (.cons (.pk 9) .nil))) (.cons (.int 1) .nil))) .nil)) .nil))) (.cons (.prim (.sl true false) (.cons (.prim .ix (.cons (.pk 3) (.cons (.pk 5) .nil))) (.cons (.prim .add (.cons (.pk 9) (.cons (.int 1) .nil))) .nil))) .nil))))) .nil
def u__law_bent_5_1 : Ss := .cons (.setix 3 (.var 4) (.frz (.prim .add (.cons (.prim .add (.cons (.prim (.sl false true) (.cons (.prim .ix (.cons (.pk 3) (.cons (.pk 4) .nil))) (.cons (.pk 9) .nil))) (.cons (.tup (.cons (.frz (.prim .add (.cons (.prim .ix (.cons (.prim .ix (.cons (.pk 3) (.cons (.pk 4) .nil))) (.cons (.pk 9) .nil))) (.cons (.int 1) .nil)))) .nil)) .nil))) (.cons (.prim (.sl true false) (.cons (.prim .ix (.cons (.pk 3) (.cons (.pk 4) .nil))) (.cons (.prim .add (.cons (.pk 9) (.cons (.int 1) .nil))) .nil))) .nil))))) u__law_bent_5_2
def u__law_bent_5_0 : Ss := .cons (.set 9 (.call "_law_next" (.cons (.pk 0) (.cons (.frz (.prim .len (.cons (.pk 1) .nil))) .nil)))) u__law_bent_5_1
def u__law_bent_6_0 : Ss := .cons (.set 3 (.prim .add (.cons (.prim (.sl true false) (.cons (.pk 3) (.cons (.prim .neg (.cons (.int 1) .nil)) .nil))) (.cons (.prim (.sl false true) (.cons (.pk 3) (.cons (.prim .neg (.cons (.int 1) .nil)) .nil))) .nil)))) .nil
def u__law_bent_7_0 : Ss := .cons (.setix 3 (.var 4) (.frz (.prim .tuple (.cons (.comp (.name 10) (.seq (.var 1)) (.bl true) (.frz (.call "_law_next" (.cons (.pk 0) (.cons (.var 10) .nil))))) .nil)))) .nil
def u__law_bent_8_0 : Ss := .cons (.set 3 (.prim .add (.cons (.prim (.sl true false) (.cons (.pk 3) (.cons (.pk 4) .nil))) (.cons (.prim (.sl false true) (.cons (.pk 3) (.cons (.pk 4) .nil))) .nil)))) .nil
def u__law_bent_0_11 : Ss := .cons (.ret (.mv 3)) .nil
def u__law_bent_0_10 : Ss := .cons (.ife (.prim .eq (.cons (.pk 6) (.cons (.int 6) .nil))) u__law_bent_8_0 .nil) u__law_bent_0_11
def u__law_bent_0_9 : Ss := .cons (.ife (.prim .eq (.cons (.pk 6) (.cons (.int 5) .nil))) u__law_bent_7_0 .nil) u__law_bent_0_10
def u__law_bent_0_8 : Ss := .cons (.ife (.prim .eq (.cons (.pk 6) (.cons (.int 4) .nil))) u__law_bent_6_0 .nil) u__law_bent_0_9
def u__law_bent_0_7 : Ss := .cons (.ife (.and (.prim .eq (.cons (.pk 6) (.cons (.int 3) .nil))) (.and (.prim .ne (.cons (.pk 1) (.cons (.tup .nil) .nil))) (.and (.prim .eq (.cons (.prim .len (.cons (.prim .ix (.cons (.pk 3) (.cons (.pk 4) .nil))) .nil)) (.cons (.prim .len (.cons (.pk 1) .nil)) .nil))) (.prim .eq (.cons (.prim .len (.cons (.prim .ix (.cons (.pk 3) (.cons (.pk 5) .nil))) .nil)) (.cons (.prim .len (.cons (.pk 1) .nil)) .nil)))))) u__law_bent_5_0 .nil) u__law_bent_0_8
def u__law_bent_0_6 : Ss := .cons (.ife (.prim .eq (.cons (.pk 6) (.cons (.int 2) .nil))) u__law_bent_4_0 .nil) u__law_bent_0_7
def u__law_bent_0_5 : Ss := .cons (.ife (.prim .eq (.cons (.pk 6) (.cons (.int 1) .nil))) u__law_bent_3_0 .nil) u__law_bent_0_6
def u__law_bent_0_4 : Ss := .cons (.ife (.prim .eq (.cons (.pk 6) (.cons (.int 0) .nil))) u__law_bent_2_0 .nil) u__law_bent_0_5
def u__law_bent_0_3 : Ss := .cons (.set 6 (.call "_law_next" (.cons (.pk 0) (.cons (.int 7) .nil)))) u__law_bent_0_4
def u__law_bent_0_2 : Ss := .cons (.par 4 5 (.call "_law_next" (.cons (.pk 0) (.cons (.frz (.prim .len (.cons (.pk 3) .nil))) .nil))) (.call "_law_next" (.cons (.pk 0) (.cons (.frz (.prim .len (.cons (.pk 3) .nil))) .nil)))) u__law_bent_0_3
def u__law_bent_0_1 : Ss := .cons (.ife (.prim .eq (.cons (.pk 3) (.cons (.lst .nil) .nil))) u__law_bent_1_0 .nil) u__law_bent_0_2
def u__law_bent_0_0 : Ss := .cons (.set 3 (.prim .list (.cons (.pk 2) .nil))) u__law_bent_0_1
def d__law_bent : Def := ⟨3, 11, [true, false, false], u__law_bent_0_0⟩
def u_law_3_0 : Ss := .cons (.set 8 (.call "_law_bent" (.cons (.pk 1) (.cons (.var 3) (.cons (.var 8) .nil))))) .nil
def u_law_2_2 : Ss := .cons (.app 6 (.var 8)) .nil
def u_law_2_1 : Ss := .cons (.for_ (.name 9) (.rng1 (.prim .add (.cons (.int 1) (.cons (.call "_law_next" (.cons (.pk 1) (.cons (.int 2) .nil))) .nil)))) u_law_3_0) u_law_2_2
def u_law_2_0 : Ss := .cons (.set 8 (.call "_law_bent" (.cons (.pk 1) (.cons (.var 3) (.cons (.var 4) .nil))))) u_law_2_1
def u_law_6_0 : Ss := .cons (.ret (.bl false)) .nil
def u_law_7_0 : Ss := .cons (.ret (.bl false)) .nil
def u_law_5_2 : Ss := .cons (.ife (.prim .ne (.cons (.comp (.name 14) (.seq (.var 13)) (.not (.prim (.isi "bool") (.cons (.pk 14) .nil))) (.var 14)) (.cons (.lst .nil) .nil))) u_law_7_0 .nil) .nil
def u_law_5_1 : Ss := .cons (.ife (.or (.not (.prim (.isi "tuple") (.cons (.pk 13) .nil))) (.or (.prim .ne (.cons (.pk 13) (.cons (.pk 11) .nil))) (.prim .ne (.cons (.pk 12) (.cons (.pk 10) .nil))))) u_law_6_0 .nil) u_law_5_2
def u_law_5_0 : Ss := .cons (.set 13 (.call "round_shown" (.cons (.var 3) (.cons (.var 12) .nil)))) u_law_5_1
def u_law_4_2 : Ss := .cons (.for_ (.name 7) (.rng1 (.int 2)) u_law_5_0) .nil
def u_law_4_1 : Ss := .cons (.set 12 (.prim .list (.cons (.pk 10) .nil))) u_law_4_2
def u_law_4_0 : Ss := .cons (.set 11 (.call "_law_due" (.cons (.var 3) (.cons (.var 10) .nil)))) u_law_4_1
def u_law_1_5 : Ss := .cons (.for_ (.name 10) (.seq (.var 6)) u_law_4_0) .nil
def u_law_1_4 : Ss := .cons (.for_ (.name 7) (.rng1 (.int 10)) u_law_2_0) u_law_1_5
def u_law_1_3 : Ss := .cons (.set 6 (.lst (.cons (.var 4) (.cons (.frz (.prim .add (.cons (.prim (.sl true false) (.cons (.pk 4) (.cons (.int 1) .nil))) (.cons (.prim (.sl false true) (.cons (.pk 4) (.cons (.int 1) .nil))) .nil)))) .nil)))) u_law_1_4
def u_law_1_2 : Ss := .cons (.set 4 (.prim .ix (.cons (.lst (.cons (.var 4) (.cons (.frz (.prim .bk (.cons (.pk 4) .nil))) .nil))) (.cons (.call "_law_next" (.cons (.pk 1) (.cons (.int 2) .nil))) .nil)))) u_law_1_3
def u_law_1_1 : Ss := .cons (.set 4 (.comp (.name 5) (.rng1 (.call "_law_many" (.cons (.var 3) .nil))) (.bl true) (.frz (.call "_law_row" (.cons (.var 3) (.cons (.var 5) .nil)))))) u_law_1_2
def u_law_1_0 : Ss := .cons (.set 3 (.call "_law_bases" (.cons (.pk 1) .nil))) u_law_1_1
def u_law_0_2 : Ss := .cons (.ret (.bl true)) .nil
def u_law_0_1 : Ss := .cons (.for_ (.name 2) (.rng1 (.int 3)) u_law_1_0) u_law_0_2
def u_law_0_0 : Ss := .cons (.set 1 (.call "_law_pile" (.cons (.var 0) .nil))) u_law_0_1
def d_law : Def := ⟨1, 15, [false], u_law_0_0⟩
def pd_rows_many : PD := ⟨"rows_many", "rows_many", d_rows_many, ["bases", "found", "base"], top 1⟩
def pd_is_next : PD := ⟨"is_next", "is_next", d_is_next, ["one", "other", "apart", "digit", "beside"], top 2⟩
def pd_round_shown : PD := ⟨"round_shown", "round_shown", d_round_shown, ["bases", "rows", "row", "place", "digit"], top 3⟩
def pd__law_pile : PD := ⟨"_law_pile", "_law_pile", d__law_pile, ["script"], top 5⟩
def pd__law_next : PD := ⟨"_law_next", "_law_next", d__law_next, ["pile", "most", "found", "cell"], top 6⟩
def pd__law_many : PD := ⟨"_law_many", "_law_many", d__law_many, ["bases", "found", "base"], top 7⟩
def pd__law_row : PD := ⟨"_law_row", "_law_row", d__law_row, ["bases", "step", "found", "worth", "base", "at"], top 8⟩
def pd__law_bases : PD := ⟨"_law_bases", "_law_bases", d__law_bases, ["pile", "found", "k", "base"], top 9⟩
def pd__law_beside : PD := ⟨"_law_beside", "_law_beside", d__law_beside, ["one", "other", "apart", "digit", "far"], top 10⟩
def pd__law_due : PD := ⟨"_law_due", "_law_due", d__law_due, ["bases", "rows", "row", "place", "one", "other"], top 11⟩
def pd__law_bent : PD := ⟨"_law_bent", "_law_bent", d__law_bent, ["pile", "bases", "rows", "found", "at", "to", "way", "low", "high", "place", "base"], top 12⟩
def pd_law : PD := ⟨"law", "law", d_law, ["script", "pile", "turn", "bases", "rows", "step", "some", "again", "bent", "more", "one", "due", "handed", "found", "truth"], top 13⟩
def T : List PD := [pd_rows_many, pd_is_next, pd_round_shown, pd__law_pile, pd__law_next, pd__law_many, pd__law_row, pd__law_bases, pd__law_beside, pd__law_due, pd__law_bent, pd_law]
def CLS : List String := []
theorem excs {K : PySem.W.Frag} {h : Heap} {mg : Str → Option Value} (X : K.In h) (G : h.Ns mainGlobals mg)  (n_ScaleError : PySem.W.nsIn K mainGlobals (Str.ofString "ScaleError") = some none) (n_NoPlace : PySem.W.nsIn K mainGlobals (Str.ofString "NoPlace") = some none) (n_TooGreat : PySem.W.nsIn K mainGlobals (Str.ofString "TooGreat") = some none) (n_TooSmall : PySem.W.nsIn K mainGlobals (Str.ofString "TooSmall") = some none) (n_NoOrder : PySem.W.nsIn K mainGlobals (Str.ofString "NoOrder") = some none) (n_NoEnd : PySem.W.nsIn K mainGlobals (Str.ofString "NoEnd") = some none) (n_NoAsk : PySem.W.nsIn K mainGlobals (Str.ofString "NoAsk") = some none) (n_NoDigit : PySem.W.nsIn K mainGlobals (Str.ofString "NoDigit") = some none) (sp : PySem.W.specialIn K (.builtin "object.__class__") "__get__" = some (some (.builtin "getset_descriptor.__get__"))) (tk : PySem.W.takesIn K (.builtin "object.__class__") = some true) : ExcOk K mg CLS := by
  have allb : ∀ c ∈ CLS, c ∈ allC := by decide
  refine exc_mk X G (ad := fun c => 0) allb ?_ ?_ ?_ ?_ ?_ sp tk
  · intro c hc; cases hc
  · intro c hc hn
    simp only [allC, List.mem_cons, List.not_mem_nil, or_false] at hc
    rcases hc with rfl | rfl | rfl | rfl | rfl | rfl | rfl | rfl
    · exact n_ScaleError
    · exact n_NoPlace
    · exact n_TooGreat
    · exact n_TooSmall
    · exact n_NoOrder
    · exact n_NoEnd
    · exact n_NoAsk
    · exact n_NoDigit
  · intro c hc; cases hc
  · intro c hc; cases hc
  · intro z; exact absurd z (by decide)
theorem okTT : okT_ CLS T = true := by decide +kernel
theorem okNN : okN_ T = true := by decide +kernel
theorem b_rows_many : BindsD pd_rows_many := fun _ _ _ _ _ _ us hl => match us, hl with | [_], _ => rfl
theorem pk_rows_many : pick T "rows_many" = some pd_rows_many := by rfl
theorem b_is_next : BindsD pd_is_next := fun _ _ _ _ _ _ us hl => match us, hl with | [_, _], _ => rfl
theorem pk_is_next : pick T "is_next" = some pd_is_next := by rfl
theorem b_round_shown : BindsD pd_round_shown := fun _ _ _ _ _ _ us hl => match us, hl with | [_, _], _ => rfl
theorem pk_round_shown : pick T "round_shown" = some pd_round_shown := by rfl
theorem b__law_pile : BindsD pd__law_pile := fun _ _ _ _ _ _ us hl => match us, hl with | [_], _ => rfl
theorem pk__law_pile : pick T "_law_pile" = some pd__law_pile := by rfl
theorem b__law_next : BindsD pd__law_next := fun _ _ _ _ _ _ us hl => match us, hl with | [_, _], _ => rfl
theorem pk__law_next : pick T "_law_next" = some pd__law_next := by rfl
theorem b__law_many : BindsD pd__law_many := fun _ _ _ _ _ _ us hl => match us, hl with | [_], _ => rfl
theorem pk__law_many : pick T "_law_many" = some pd__law_many := by rfl
theorem b__law_row : BindsD pd__law_row := fun _ _ _ _ _ _ us hl => match us, hl with | [_, _], _ => rfl
theorem pk__law_row : pick T "_law_row" = some pd__law_row := by rfl
theorem b__law_bases : BindsD pd__law_bases := fun _ _ _ _ _ _ us hl => match us, hl with | [_], _ => rfl
theorem pk__law_bases : pick T "_law_bases" = some pd__law_bases := by rfl
theorem b__law_beside : BindsD pd__law_beside := fun _ _ _ _ _ _ us hl => match us, hl with | [_, _], _ => rfl
theorem pk__law_beside : pick T "_law_beside" = some pd__law_beside := by rfl
theorem b__law_due : BindsD pd__law_due := fun _ _ _ _ _ _ us hl => match us, hl with | [_, _], _ => rfl
theorem pk__law_due : pick T "_law_due" = some pd__law_due := by rfl
theorem b__law_bent : BindsD pd__law_bent := fun _ _ _ _ _ _ us hl => match us, hl with | [_, _, _], _ => rfl
theorem pk__law_bent : pick T "_law_bent" = some pd__law_bent := by rfl
theorem b_law : BindsD pd_law := fun _ _ _ _ _ _ us hl => match us, hl with | [_], _ => rfl
theorem pk_law : pick T "law" = some pd_law := by rfl
end MS
namespace MS
/-! ### rows of digits by bases (plain) -/
/-- the number of a row that begins at place k -/
def vf (bf : Nat → Int) : Nat → List Int → Int
  | _, [] => 0
  | k, d :: ds => d + bf k * vf bf (k + 1) ds
/-- the product of n bases from place k on -/
def wf (bf : Nat → Int) : Nat → Nat → Int
  | _, 0 => 1
  | k, n + 1 => bf k * wf bf (k + 1) n
def okR (bf : Nat → Int) : Nat → List Int → Prop
  | _, [] => True
  | k, d :: ds => 0 ≤ d ∧ d < bf k ∧ okR bf (k + 1) ds
/-- no nought behind -/
def bare : List Int → Prop
  | [] => True
  | [d] => d ≠ 0
  | _ :: d :: ds => bare (d :: ds)
/-- without the noughts behind -/
def strip (l : List Int) : List Int := (l.reverse.dropWhile (· == 0)).reverse
section
variable {bf : Nat → Int}
theorem wf_succ : ∀ (n k : Nat), wf bf k (n + 1) = wf bf k n * bf (k + n)
  | 0, k => by simp [wf]
  | n + 1, k => by
    show bf k * wf bf (k + 1) (n + 1) = bf k * wf bf (k + 1) n * bf (k + (n + 1))
    rw [wf_succ n (k + 1), Int.mul_assoc]
    have : k + 1 + n = k + (n + 1) := by omega
    rw [this]
theorem wf_add (k : Nat) : ∀ (m n : Nat), wf bf k (m + n) = wf bf k m * wf bf (k + m) n
  | m, 0 => by simp [wf]
  | m, n + 1 => by
    rw [← Nat.add_assoc, wf_succ, wf_add k m n, wf_succ, Int.mul_assoc, Nat.add_assoc]
theorem wf_pos (h : ∀ i, 2 ≤ bf i) : ∀ (n k : Nat), 0 < wf bf k n
  | 0, _ => by simp [wf]
  | n + 1, k => Int.mul_pos (by have := h k; omega) (wf_pos h n (k + 1))
theorem wf_lt (h : ∀ i, 2 ≤ bf i) (k n : Nat) : 2 * wf bf k n ≤ wf bf k (n + 1) := by
  rw [wf_succ, Int.mul_comm]
  exact Int.mul_le_mul_of_nonneg_left (h _) (Int.le_of_lt (wf_pos h n k))
theorem wf_mono (h : ∀ i, 2 ≤ bf i) {m n : Nat} (k : Nat) (hm : m ≤ n) : wf bf k m ≤ wf bf k n := by
  obtain ⟨d, rfl⟩ : ∃ d, n = m + d := ⟨n - m, by omega⟩
  rw [wf_add]
  have := Int.mul_le_mul_of_nonneg_left (show 1 ≤ wf bf (k + m) d by have := wf_pos h d (k + m); omega) (Int.le_of_lt (wf_pos h m k))
  omega
theorem wf_bound (h : ∀ i, 2 ≤ bf i ∧ bf i ≤ 1000000) : ∀ (n k : Nat), wf bf k n ≤ 2 ^ (20 * n)
  | 0, _ => by simp [wf]
  | n + 1, k => by
    have ih := wf_bound h n (k + 1)
    have hk := h k
    have p := wf_pos (fun i => (h i).1) n (k + 1)
    show bf k * wf bf (k + 1) n ≤ _
    have e : (2 : Int) ^ (20 * (n + 1)) = 2 ^ 20 * 2 ^ (20 * n) := by rw [← Int.pow_add]; congr 1; omega
    rw [e]
    exact Int.mul_le_mul (by omega) ih (by omega) (by decide)
theorem vf_app : ∀ (a b : List Int) (k : Nat), vf bf k (a ++ b) = vf bf k a + wf bf k a.length * vf bf (k + a.length) b
  | [], b, k => by simp [vf, wf]
  | d :: a, b, k => by
    show d + bf k * vf bf (k + 1) (a ++ b) = d + bf k * vf bf (k + 1) a + bf k * wf bf (k + 1) a.length * vf bf (k + (a.length + 1)) b
    rw [vf_app a b (k + 1), Int.mul_add, ← Int.mul_assoc, Int.add_assoc]
    have : k + 1 + a.length = k + (a.length + 1) := by omega
    rw [this]
theorem okR_app : ∀ (a b : List Int) (k : Nat), okR bf k (a ++ b) ↔ okR bf k a ∧ okR bf (k + a.length) b
  | [], b, k => by simp [okR]
  | d :: a, b, k => by
    show 0 ≤ d ∧ d < bf k ∧ okR bf (k + 1) (a ++ b) ↔ _
    rw [okR_app a b (k + 1)]
    have : k + 1 + a.length = k + (a.length + 1) := by omega
    rw [this]
    simp only [okR, List.length_cons]
    constructor
    · rintro ⟨h1, h2, h3, h4⟩; exact ⟨⟨h1, h2, h3⟩, h4⟩
    · rintro ⟨⟨h1, h2, h3⟩, h4⟩; exact ⟨h1, h2, h3, h4⟩
theorem vf_range (h : ∀ i, 2 ≤ bf i) : ∀ (ds : List Int) (k : Nat), okR bf k ds → 0 ≤ vf bf k ds ∧ vf bf k ds < wf bf k ds.length
  | [], k, _ => by simp [vf, wf]
  | d :: ds, k, ⟨h1, h2, h3⟩ => by
    obtain ⟨i1, i2⟩ := vf_range h ds (k + 1) h3
    have hk := h k
    have p1 := Int.mul_nonneg (show 0 ≤ bf k by omega) i1
    have p2 : bf k * (vf bf (k + 1) ds + 1) ≤ bf k * wf bf (k + 1) ds.length := Int.mul_le_mul_of_nonneg_left (by omega) (by omega)
    rw [Int.mul_add] at p2
    show 0 ≤ d + bf k * _ ∧ d + bf k * _ < bf k * _
    omega
theorem okR_get : ∀ {ds : List Int} {k : Nat}, okR bf k ds → ∀ i, i < ds.length → 0 ≤ gD ds i ∧ gD ds i < bf (k + i)
  | d :: ds, k, ⟨h1, h2, _⟩, 0, _ => ⟨h1, h2⟩
  | d :: ds, k, ⟨_, _, h3⟩, i + 1, hi => by
    have := okR_get h3 i (by simpa using hi)
    rw [gD_succ]
    have e : k + 1 + i = k + (i + 1) := by omega
    rw [e] at this
    exact this
theorem okR_of : ∀ {ds : List Int} {k : Nat}, (∀ i, i < ds.length → 0 ≤ gD ds i ∧ gD ds i < bf (k + i)) → okR bf k ds
  | [], _, _ => trivial
  | d :: ds, k, h => by
    have h0 := h 0 (by simp)
    refine ⟨h0.1, h0.2, okR_of fun i hi => ?_⟩
    have := h (i + 1) (by simpa using hi)
    rw [gD_succ] at this
    have e : k + 1 + i = k + (i + 1) := by omega
    rw [e]
    exact this
theorem okR_take {ds : List Int} {k : Nat} (h : okR bf k ds) (n : Nat) : okR bf k (ds.take n) := by
  have := (okR_app (ds.take n) (ds.drop n) k).mp (by rw [List.take_append_drop]; exact h)
  exact this.1
theorem vf_take (h : ∀ i, 2 ≤ bf i) {ds : List Int} (hd : okR bf 0 ds) (n : Nat) (hn : n ≤ ds.length) : vf bf 0 ds % wf bf 0 n = vf bf 0 (ds.take n) := by
  have e := vf_app (bf := bf) (ds.take n) (ds.drop n) 0
  rw [List.take_append_drop] at e
  have hl : (ds.take n).length = n := by rw [List.length_take]; omega
  rw [e, hl, Int.add_mul_emod_self_left]
  have := vf_range h _ 0 (okR_take hd n)
  rw [hl] at this
  exact Int.emod_eq_of_lt this.1 this.2
theorem bare_tail : ∀ {d : Int} {ds : List Int}, bare (d :: ds) → bare ds
  | _, [], _ => trivial
  | _, _ :: _, h => h
theorem bare_zero (h : ∀ i, 2 ≤ bf i) : ∀ {ds : List Int} {k : Nat}, okR bf k ds → bare ds → vf bf k ds = 0 → ds = []
  | [], _, _, _, _ => rfl
  | d :: ds, k, ⟨h1, h2, h3⟩, hb, hv => by
    exfalso
    have hv : d + bf k * vf bf (k + 1) ds = 0 := hv
    have r := vf_range h ds (k + 1) h3
    have p := Int.mul_nonneg (show 0 ≤ bf k by have := h k; omega) r.1
    have hd : d = 0 := by omega
    have hm : bf k * vf bf (k + 1) ds = 0 := by omega
    have hv2 : vf bf (k + 1) ds = 0 := by
      rcases Int.mul_eq_zero.mp hm with z | z
      · have := h k; omega
      · exact z
    have := bare_zero h h3 (bare_tail hb) hv2
    subst this
    exact hb hd
/-- a number has one row without noughts behind -/
theorem row_uniq (h : ∀ i, 2 ≤ bf i) : ∀ {a b : List Int} {k : Nat}, okR bf k a → okR bf k b → bare a → bare b → vf bf k a = vf bf k b → a = b
  | [], b, k, _, hb, _, nb, e => (bare_zero h hb nb e.symm).symm
  | x :: a, [], k, ha, _, na, _, e => bare_zero h ha na e
  | x :: a, y :: b, k, ⟨a1, a2, a3⟩, ⟨b1, b2, b3⟩, na, nb, e => by
    have e : x + bf k * vf bf (k + 1) a = y + bf k * vf bf (k + 1) b := e
    have hk := h k
    have m1 : (x + bf k * vf bf (k + 1) a) % bf k = x := by rw [Int.add_mul_emod_self_left, Int.emod_eq_of_lt a1 a2]
    have m2 : (y + bf k * vf bf (k + 1) b) % bf k = y := by rw [Int.add_mul_emod_self_left, Int.emod_eq_of_lt b1 b2]
    have exy : x = y := by rw [← m1, ← m2, e]
    subst exy
    have hv : vf bf (k + 1) a = vf bf (k + 1) b := Int.eq_of_mul_eq_mul_left (by omega) (show bf k * vf bf (k + 1) a = bf k * vf bf (k + 1) b by omega)
    rw [row_uniq h a3 b3 (bare_tail na) (bare_tail nb) hv]
theorem bare_app : ∀ (a : List Int) {d : Int}, d ≠ 0 → bare (a ++ [d])
  | [], d, h => h
  | [x], d, h => h
  | x :: y :: a, d, h => bare_app (y :: a) h
theorem strip_app0 (l : List Int) : strip (l ++ [0]) = strip l := by simp [strip]
theorem strip_app1 (l : List Int) {d : Int} (h : d ≠ 0) : strip (l ++ [d]) = l ++ [d] := by
  simp [strip, h]
theorem rev_ind {P : List Int → Prop} (h0 : P []) (h1 : ∀ l d, P l → P (l ++ [d])) (l : List Int) : P l := by
  have : ∀ m : List Int, P m.reverse := by
    intro m
    induction m with
    | nil => exact h0
    | cons d m ih => rw [List.reverse_cons]; exact h1 _ _ ih
  have := this l.reverse
  rwa [List.reverse_reverse] at this
theorem strip_bare (l : List Int) : bare (strip l) := by
  induction l using rev_ind with
  | h0 => trivial
  | h1 l d ih =>
    by_cases hd : d = 0
    · subst hd; rw [strip_app0]; exact ih
    · rw [strip_app1 l hd]; exact bare_app l hd
theorem strip_len (l : List Int) : (strip l).length ≤ l.length := by
  induction l using rev_ind with
  | h0 => simp [strip]
  | h1 l d ih =>
    by_cases hd : d = 0
    · subst hd; rw [strip_app0]; simp; omega
    · rw [strip_app1 l hd]; simp
theorem strip_vf (l : List Int) : vf bf 0 (strip l) = vf bf 0 l := by
  induction l using rev_ind with
  | h0 => rfl
  | h1 l d ih =>
    by_cases hd : d = 0
    · subst hd
      rw [strip_app0, ih, vf_app]
      simp [vf]
    · rw [strip_app1 l hd]
theorem strip_ok (l : List Int) (h : okR bf 0 l) : okR bf 0 (strip l) := by
  induction l using rev_ind with
  | h0 => trivial
  | h1 l d ih =>
    by_cases hd : d = 0
    · subst hd; rw [strip_app0]; exact ih ((okR_app _ _ _).mp h).1
    · rw [strip_app1 l hd]; exact h
theorem bare_strip {l : List Int} (h : bare l) : strip l = l := by
  induction l using rev_ind with
  | h0 => rfl
  | h1 l d ih =>
    by_cases hd : d = 0
    · exfalso
      subst hd
      have : ∀ l : List Int, ¬ bare (l ++ [0]) := by
        intro l
        induction l with
        | nil => intro z; exact z rfl
        | cons x l ih =>
          intro z
          exact ih (bare_tail (d := x) (by simpa using z))
      exact this l h
    · exact strip_app1 l hd
/-- with noughts behind -/
theorem vf_noughts (l : List Int) (n : Nat) : vf bf 0 (l ++ List.replicate n 0) = vf bf 0 l := by
  induction n with
  | zero => simp
  | succ n ih =>
    rw [List.replicate_succ', ← List.append_assoc, vf_app, ih]
    simp [vf]
theorem okR_noughts (h : ∀ i, 2 ≤ bf i) {l : List Int} (hl : okR bf 0 l) (n : Nat) : okR bf 0 (l ++ List.replicate n 0) := by
  induction n with
  | zero => simpa using hl
  | succ n ih =>
    rw [List.replicate_succ', ← List.append_assoc, okR_app]
    exact ⟨ih, by simp [okR]; have := h (0 + (l ++ List.replicate n 0).length); simp at this; omega⟩
end
theorem sum_vf {bf : Nat → Int} : ∀ (ds : List Int) (k : Nat) (c : Int), ((List.range ds.length).map fun i => gD ds i * (c * wf bf k i)).sum = c * vf bf k ds
  | [], k, c => by simp [vf]
  | d :: ds, k, c => by
    rw [List.length_cons, List.range_succ_eq_map, List.map_cons, List.sum_cons, List.map_map]
    have e : ((fun i => gD (d :: ds) i * (c * wf bf k i)) ∘ Nat.succ) = fun i => gD ds i * (c * bf k * wf bf (k + 1) i) := by
      funext i
      show gD (d :: ds) (i + 1) * (c * (bf k * wf bf (k + 1) i)) = _
      rw [gD_succ, Int.mul_assoc]
    rw [e, sum_vf ds (k + 1) (c * bf k), gD_zero]
    show d * (c * 1) + c * bf k * vf bf (k + 1) ds = c * (d + bf k * vf bf (k + 1) ds)
    rw [Int.mul_one, Int.mul_add, Int.mul_comm d c, Int.mul_assoc]
theorem drop_cons {l : List Int} {p : Nat} (h : p < l.length) : l.drop p = gD l p :: l.drop (p + 1) := by
  rw [List.drop_eq_getElem_cons h]
  congr 1
  exact (gD_of (List.getElem?_eq_getElem h)).symm
theorem div_k {a b : Int} (k : Nat) (h : 0 < b) (hb : b ≤ 2 ^ k) (hk : k + 1 ≤ 9000) : DivOk a b := by
  refine .inr (L2.wide_div (b := k + 1) h ?_ (by omega) hk)
  have e : (b.natAbs : Int) = b := by omega
  have : (b.natAbs : Int) < (2 : Int) ^ (k + 1) := by
    rw [e, Int.pow_succ]
    have : (0 : Int) < 2 ^ k := Int.pow_pos (by decide)
    omega
  exact_mod_cast this
end MS
namespace MS
section
variable {bf : Nat → Int}
theorem vf_lt (h : ∀ i, 2 ≤ bf i) {l : List Int} (hl : okR bf 0 l) {n : Nat} (hn : l.length ≤ n) : vf bf 0 l % wf bf 0 n = vf bf 0 l := by
  have r := vf_range h l 0 hl
  have m := wf_mono h 0 hn
  exact Int.emod_eq_of_lt r.1 (by omega)
theorem take_snoc {l : List Int} {n : Nat} (h : n < l.length) : l.take (n + 1) = l.take n ++ [gD l n] := by
  rw [List.take_succ, gD_get h]; rfl
/-- the number up to place n -/
theorem mod_step (h : ∀ i, 2 ≤ bf i) {l : List Int} (hl : okR bf 0 l) (n : Nat) : vf bf 0 l % wf bf 0 (n + 1) = vf bf 0 l % wf bf 0 n + wf bf 0 n * gD l n := by
  by_cases hn : n < l.length
  · rw [vf_take h hl (n + 1) (by omega), vf_take h hl n (by omega), take_snoc hn, vf_app]
    have e : (l.take n).length = n := by rw [List.length_take]; omega
    rw [e]
    simp [vf]
  · rw [vf_lt h hl (by omega), vf_lt h hl (by omega), gD_out (by omega)]; simp
theorem vf_snoc (l : List Int) (d : Int) : vf bf 0 (l ++ [d]) = vf bf 0 l + wf bf 0 l.length * d := by
  rw [vf_app]; simp [vf]
theorem okR_snoc {l : List Int} {d : Int} (hl : okR bf 0 l) (h0 : 0 ≤ d) (h1 : d < bf l.length) : okR bf 0 (l ++ [d]) := by
  rw [okR_app]; refine ⟨hl, h0, ?_, trivial⟩; rw [Nat.zero_add]; exact h1
theorem wf_s (n : Nat) : wf bf 0 (n + 1) = wf bf 0 n * bf n := by rw [wf_succ, Nat.zero_add]
/-- a digit is put, and what is carried on -/
theorem put_digit (l : List Int) (t : Int) : vf bf 0 (l ++ [t % bf l.length]) + wf bf 0 (l.length + 1) * (t / bf l.length) = vf bf 0 l + wf bf 0 l.length * t := by
  rw [vf_snoc, wf_s, Int.mul_assoc, Int.add_assoc, ← Int.mul_add]
  congr 2
  have := Int.emod_add_mul_ediv t (bf l.length)
  omega
/-- the digits from the greatest worth down -/
def digsD (bf : Nat → Int) : Nat → Int → List Int
  | 0, _ => []
  | n + 1, x => digsD bf n (x % wf bf 0 n) ++ [x / wf bf 0 n]
theorem digsD_len : ∀ (n : Nat) (x : Int), (digsD bf n x).length = n
  | 0, _ => rfl
  | n + 1, x => by simp [digsD, digsD_len n]
theorem digsD_ok (h : ∀ i, 2 ≤ bf i) : ∀ (n : Nat) (x : Int), 0 ≤ x → x < wf bf 0 n → okR bf 0 (digsD bf n x) ∧ vf bf 0 (digsD bf n x) = x
  | 0, x, h0, h1 => by
    have : x = 0 := by simp [wf] at h1; omega
    subst this
    exact ⟨trivial, rfl⟩
  | n + 1, x, h0, h1 => by
    have p := wf_pos h n 0
    have m0 := Int.emod_nonneg x (show wf bf 0 n ≠ 0 by omega)
    have m1 := Int.emod_lt_of_pos x p
    obtain ⟨i1, i2⟩ := digsD_ok h n (x % wf bf 0 n) m0 m1
    have hl := digsD_len (bf := bf) n (x % wf bf 0 n)
    refine ⟨okR_snoc i1 (Int.ediv_nonneg h0 (by omega)) ?_, ?_⟩
    · rw [hl]
      refine Int.ediv_lt_of_lt_mul p ?_
      rw [wf_s, Int.mul_comm] at h1
      exact h1
    · show vf bf 0 (digsD bf n _ ++ [_]) = _
      rw [vf_snoc, hl, i2]
      exact Int.emod_add_mul_ediv x _
theorem digsD_bare (h : ∀ i, 2 ≤ bf i) {n : Nat} {x : Int} (hx : n = 0 ∨ wf bf 0 (n - 1) ≤ x) : bare (digsD bf n x) := by
  cases n with
  | zero => trivial
  | succ n =>
    have hx : wf bf 0 n ≤ x := by simpa using hx
    have p := wf_pos h n 0
    refine bare_app _ ?_
    have : 1 ≤ x / wf bf 0 n := (Int.le_ediv_iff_mul_le p).mpr (by omega)
    omega
/-- so many places at least -/
theorem bare_ge (h : ∀ i, 2 ≤ bf i) {l : List Int} (hl : okR bf 0 l) (hb : bare l) (hn : l ≠ []) : wf bf 0 (l.length - 1) ≤ vf bf 0 l := by
  obtain ⟨a, d, rfl⟩ : ∃ a d, l = a ++ [d] := ⟨l.dropLast, l.getLast hn, (List.dropLast_concat_getLast hn).symm⟩
  have hd : d ≠ 0 := by
    intro z
    subst z
    have : ∀ l : List Int, ¬ bare (l ++ [0]) := by
      intro l
      induction l with
      | nil => intro z; exact z rfl
      | cons x l ih => intro z; exact ih (bare_tail (d := x) (by simpa using z))
    exact this a hb
  rw [okR_app] at hl
  obtain ⟨h1, h2, _⟩ := hl
  have r := vf_range h a 0 h1
  rw [vf_snoc]
  have e : (a ++ [d]).length - 1 = a.length := by simp
  rw [e]
  have p := wf_pos h a.length 0
  have := Int.mul_le_mul_of_nonneg_left (show 1 ≤ d by omega) (Int.le_of_lt p)
  omega
/-- what is carried out of each place of a sum -/
def addC (bf : Nat → Int) (a b : Int) (n : Nat) : List Int := (List.range n).map fun i => if wf bf 0 (i + 1) ≤ a % wf bf 0 (i + 1) + b % wf bf 0 (i + 1) then 1 else 0
/-- .. and lent -/
def subC (bf : Nat → Int) (a b : Int) (n : Nat) : List Int := (List.range n).map fun i => if a % wf bf 0 (i + 1) < b % wf bf 0 (i + 1) then 1 else 0
/-- .. of so many times -/
def mulC (bf : Nat → Int) (a m : Int) (n : Nat) : List Int := (List.range n).map fun i => a % wf bf 0 (i + 1) * m / wf bf 0 (i + 1)
theorem range_snoc {f : Nat → Int} {n : Nat} : (List.range (n + 1)).map f = (List.range n).map f ++ [f n] := by
  rw [List.range_succ, List.map_append]; rfl
/-- one place of a sum -/
theorem add_step (h : ∀ i, 2 ≤ bf i) {a b ds : List Int} {c : Int} {n : Nat} (ha : okR bf 0 a) (hb : okR bf 0 b) (hd : okR bf 0 ds) (hl : ds.length = n)
    (e : vf bf 0 ds + wf bf 0 n * c = vf bf 0 a % wf bf 0 n + vf bf 0 b % wf bf 0 n) (c0 : 0 ≤ gD a n + gD b n + c) :
    okR bf 0 (ds ++ [(gD a n + gD b n + c) % bf n]) ∧ vf bf 0 (ds ++ [(gD a n + gD b n + c) % bf n]) + wf bf 0 (n + 1) * ((gD a n + gD b n + c) / bf n) = vf bf 0 a % wf bf 0 (n + 1) + vf bf 0 b % wf bf 0 (n + 1) ∧
      (gD a n + gD b n + c) / bf n = if wf bf 0 (n + 1) ≤ vf bf 0 a % wf bf 0 (n + 1) + vf bf 0 b % wf bf 0 (n + 1) then 1 else 0 := by
  subst hl
  have hb2 := h ds.length
  have o := okR_snoc hd (Int.emod_nonneg (gD a ds.length + gD b ds.length + c) (show bf ds.length ≠ 0 by omega)) (Int.emod_lt_of_pos _ (show 0 < bf ds.length by omega))
  have p := put_digit (bf := bf) ds (gD a ds.length + gD b ds.length + c)
  have e2 : vf bf 0 (ds ++ [(gD a ds.length + gD b ds.length + c) % bf ds.length]) + wf bf 0 (ds.length + 1) * ((gD a ds.length + gD b ds.length + c) / bf ds.length) = vf bf 0 a % wf bf 0 (ds.length + 1) + vf bf 0 b % wf bf 0 (ds.length + 1) := by
    rw [p, mod_step h ha, mod_step h hb, Int.mul_add, Int.mul_add]; omega
  refine ⟨o, e2, ?_⟩
  have r := vf_range h _ 0 o
  rw [List.length_append, List.length_singleton] at r
  have w := wf_pos h (ds.length + 1) 0
  have ra := Int.emod_lt_of_pos (vf bf 0 a) w
  have rb := Int.emod_lt_of_pos (vf bf 0 b) w
  have qa := Int.emod_nonneg (vf bf 0 a) (show wf bf 0 (ds.length + 1) ≠ 0 by omega)
  have qb := Int.emod_nonneg (vf bf 0 b) (show wf bf 0 (ds.length + 1) ≠ 0 by omega)
  generalize (gD a ds.length + gD b ds.length + c) / bf ds.length = q at *
  generalize wf bf 0 (ds.length + 1) = W at *
  have q0 : 0 ≤ q := by
    by_cases z : q < 0
    · have := Int.mul_le_mul_of_nonneg_left (show q ≤ -1 by omega) (Int.le_of_lt w); omega
    · omega
  have q1 : q ≤ 1 := by
    by_cases z : 2 ≤ q
    · have := Int.mul_le_mul_of_nonneg_left z (Int.le_of_lt w); omega
    · omega
  have : q = 0 ∨ q = 1 := by omega
  rcases this with rfl | rfl
  · rw [Int.mul_zero] at e2; rw [if_neg (by omega)]
  · rw [Int.mul_one] at e2; rw [if_pos (by omega)]
/-- one place of what is left -/
theorem sub_step (h : ∀ i, 2 ≤ bf i) {a b ds : List Int} {c : Int} {n : Nat} (ha : okR bf 0 a) (hb : okR bf 0 b) (hd : okR bf 0 ds) (hl : ds.length = n) (c1 : c = 0 ∨ c = 1)
    (e : vf bf 0 ds - wf bf 0 n * c = vf bf 0 a % wf bf 0 n - vf bf 0 b % wf bf 0 n) (l : Int) (hl2 : l = if gD a n - gD b n - c < 0 then 1 else 0) :
    okR bf 0 (ds ++ [gD a n - gD b n - c + l * bf n]) ∧ vf bf 0 (ds ++ [gD a n - gD b n - c + l * bf n]) - wf bf 0 (n + 1) * l = vf bf 0 a % wf bf 0 (n + 1) - vf bf 0 b % wf bf 0 (n + 1) ∧
      l = if vf bf 0 a % wf bf 0 (n + 1) < vf bf 0 b % wf bf 0 (n + 1) then 1 else 0 := by
  subst hl
  have hb2 := h ds.length
  have g : ∀ {x : List Int}, okR bf 0 x → 0 ≤ gD x ds.length ∧ gD x ds.length < bf ds.length := fun {x} hx => by
    by_cases z : ds.length < x.length
    · have := okR_get hx _ z; rwa [Nat.zero_add] at this
    · rw [gD_out (by omega)]; omega
  have ga := g ha
  have gb := g hb
  have o := okR_snoc (d := gD a ds.length - gD b ds.length - c + l * bf ds.length) hd (by split at hl2 <;> subst hl2 <;> omega) (by split at hl2 <;> subst hl2 <;> omega)
  have e2 : vf bf 0 (ds ++ [gD a ds.length - gD b ds.length - c + l * bf ds.length]) - wf bf 0 (ds.length + 1) * l = vf bf 0 a % wf bf 0 (ds.length + 1) - vf bf 0 b % wf bf 0 (ds.length + 1) := by
    have em : wf bf 0 ds.length * bf ds.length * l = wf bf 0 ds.length * (l * bf ds.length) := by rw [Int.mul_assoc, Int.mul_comm (bf _) l]
    rw [vf_snoc, mod_step h ha, mod_step h hb, wf_s, em, Int.mul_add, Int.mul_sub, Int.mul_sub]; omega
  refine ⟨o, e2, ?_⟩
  have r := vf_range h _ 0 o
  rw [List.length_append, List.length_singleton] at r
  generalize wf bf 0 (ds.length + 1) = W at *
  by_cases z : gD a ds.length - gD b ds.length - c < 0
  · rw [if_pos z] at hl2; subst hl2; rw [if_pos (by omega)]
  · rw [if_neg z] at hl2; subst hl2; rw [if_neg (by omega)]
/-- one place of so many times -/
theorem mul_step (h : ∀ i, 2 ≤ bf i) {a ds : List Int} {c m : Int} {n : Nat} (ha : okR bf 0 a) (hd : okR bf 0 ds) (hl : ds.length = n)
    (e : vf bf 0 ds + wf bf 0 n * c = vf bf 0 a % wf bf 0 n * m) :
    okR bf 0 (ds ++ [(gD a n * m + c) % bf n]) ∧ vf bf 0 (ds ++ [(gD a n * m + c) % bf n]) + wf bf 0 (n + 1) * ((gD a n * m + c) / bf n) = vf bf 0 a % wf bf 0 (n + 1) * m ∧
      (gD a n * m + c) / bf n = vf bf 0 a % wf bf 0 (n + 1) * m / wf bf 0 (n + 1) := by
  subst hl
  have hb2 := h ds.length
  have o := okR_snoc hd (Int.emod_nonneg (gD a ds.length * m + c) (show bf ds.length ≠ 0 by omega)) (Int.emod_lt_of_pos _ (show 0 < bf ds.length by omega))
  have p := put_digit (bf := bf) ds (gD a ds.length * m + c)
  have e2 : vf bf 0 (ds ++ [(gD a ds.length * m + c) % bf ds.length]) + wf bf 0 (ds.length + 1) * ((gD a ds.length * m + c) / bf ds.length) = vf bf 0 a % wf bf 0 (ds.length + 1) * m := by
    rw [p, mod_step h ha, Int.mul_add, Int.add_mul, Int.mul_assoc]; omega
  refine ⟨o, e2, ?_⟩
  have r := vf_range h _ 0 o
  rw [List.length_append, List.length_singleton] at r
  rw [← e2, Int.add_mul_ediv_left _ _ (by omega), Int.ediv_eq_zero_of_lt r.1 r.2]; omega
end
end MS
local macro_rules | `(tactic| walk_at "s") => `(tactic| (refine MS.ss ?_; try simp -implicitDefEqProofs))
local macro_rules | `(tactic| walk_at "w") => `(tactic| (try simp -implicitDefEqProofs))
namespace MS
open PySem
/-! ### _law_number: a number below a million -/
end MS
local macro_rules | `(tactic| walk_at "s") => `(tactic| (refine MS.ss ?_; try simp -implicitDefEqProofs))
local macro_rules | `(tactic| walk_at "w") => `(tactic| (try simp -implicitDefEqProofs))
local macro_rules | `(tactic| walk_at "a") => `(tactic| (repeat (refine And.intro (by omega) ?_)))
namespace MS
open PySem
/-! ### counters -/
def prodL : List Int → Int
  | [] => 1
  | b :: bs => b * prodL bs
theorem prodL_app : ∀ (a b : List Int), prodL (a ++ b) = prodL a * prodL b
  | [], b => by simp [prodL]
  | x :: a, b => by simp [prodL, prodL_app a b, Int.mul_assoc]
theorem prodL_pos : ∀ {bs : List Int}, (∀ b ∈ bs, 0 < b) → 0 < prodL bs
  | [], _ => by decide
  | b :: bs, h => Int.mul_pos (h b (by simp)) (prodL_pos fun x hx => h x (by simp [hx]))
theorem prodL_take {bs : List Int} {i : Nat} {b : Int} (h : bs[i]? = some b) : prodL (bs.take (i + 1)) = prodL (bs.take i) * b := by
  rw [List.take_succ, h, prodL_app]
  simp [prodL]
theorem drop_get {bs : List Int} {i : Nat} {b : Int} (h : bs[i]? = some b) : bs.drop i = b :: bs.drop (i + 1) := by
  obtain ⟨hl, e⟩ := List.getElem?_eq_some_iff.mp h
  rw [← e]
  exact List.drop_eq_getElem_cons hl
theorem prodL_le {bs : List Int} (h : ∀ b ∈ bs, 0 < b) (i : Nat) : prodL (bs.take i) ≤ prodL bs ∧ 0 < prodL (bs.take i) := by
  have p1 : 0 < prodL (bs.take i) := prodL_pos fun b hb => h b (List.mem_of_mem_take hb)
  have p2 : 0 < prodL (bs.drop i) := prodL_pos fun b hb => h b (List.mem_of_mem_drop hb)
  refine ⟨?_, p1⟩
  have e : prodL bs = prodL (bs.take i) * prodL (bs.drop i) := by rw [← prodL_app, List.take_append_drop]
  have := Int.mul_le_mul_of_nonneg_left (show 1 ≤ prodL (bs.drop i) by omega) (Int.le_of_lt p1)
  omega
/-- the row at a step -/
def turned (b d : Int) (odd : Bool) : Int := if odd then b - 1 - d else d
def grow : List Int → Int → List Int
  | [], _ => []
  | b :: bs, n => (if n / b % 2 = 1 then b - 1 - n % b else n % b) :: grow bs (n / b)
theorem grow_len : ∀ (bs : List Int) (n : Int), (grow bs n).length = bs.length
  | [], _ => rfl
  | b :: bs, n => by simp [grow, grow_len bs]
theorem next_small {n b : Int} (hb : 0 < b) (h : n % b + 1 < b) : (n + 1) / b = n / b ∧ (n + 1) % b = n % b + 1 := by
  have m := md n b hb
  have e := Int.emod_add_mul_ediv n b
  have : n + 1 = (n % b + 1) + b * (n / b) := by omega
  rw [this]
  constructor
  · rw [Int.add_mul_ediv_left _ _ (by omega), Int.ediv_eq_zero_of_lt (by omega) h, Int.zero_add]
  · rw [Int.add_mul_emod_self_left, Int.emod_eq_of_lt (by omega) h]
theorem next_over {n b : Int} (hb : 0 < b) (h : ¬ n % b + 1 < b) : (n + 1) / b = n / b + 1 ∧ (n + 1) % b = 0 ∧ n % b = b - 1 ∧ n + 1 = b * (n / b + 1) := by
  have m := md n b hb
  have e := Int.emod_add_mul_ediv n b
  have e0 : n + 1 = 0 + b * (n / b + 1) := by rw [Int.mul_add]; omega
  refine ⟨?_, ?_, by omega, by omega⟩
  · rw [e0, Int.add_mul_ediv_left _ _ (by omega), Int.zero_ediv]; omega
  · rw [e0, Int.add_mul_emod_self_left]; rfl
theorem grow_next : ∀ {bs : List Int} {n : Int}, (∀ b ∈ bs, 0 < b) → 0 ≤ n → n + 1 < prodL bs → ∃ i, i < bs.length ∧ ∀ k, k < bs.length → (gD (grow bs n) k ≠ gD (grow bs (n + 1)) k ↔ k = i)
  | [], n, _, h0, h => by simp [prodL] at h; omega
  | b :: bs, n, hb, h0, h => by
    have b0 := hb b (by simp)
    have hbs : ∀ x ∈ bs, 0 < x := fun x hx => hb x (by simp [hx])
    by_cases hd : n % b + 1 < b
    · obtain ⟨e1, e2⟩ := next_small b0 hd
      refine ⟨0, by simp, fun k hk => ?_⟩
      cases k with
      | zero =>
        simp only [grow, e1, e2, gD_zero]
        constructor
        · intro _; trivial
        · intro _; split <;> omega
      | succ k =>
        simp only [grow, e1, gD_succ]
        simp
    · obtain ⟨e1, e2, e3, e4⟩ := next_over b0 hd
      have hlt : n / b + 1 < prodL bs := by
        have h' : b * (n / b + 1) < b * prodL bs := by rw [← e4]; exact h
        exact Int.lt_of_mul_lt_mul_left h' (Int.le_of_lt b0)
      obtain ⟨i, hi, hk⟩ := grow_next hbs (Int.ediv_nonneg h0 (Int.le_of_lt b0)) hlt
      refine ⟨i + 1, by simp; exact hi, fun k hkl => ?_⟩
      cases k with
      | zero =>
        simp only [grow, e1, e2, e3, gD_zero]
        constructor
        · intro z
          exfalso; apply z
          split <;> split <;> omega
        · intro z; omega
      | succ k =>
        simp only [grow, e1, gD_succ]
        rw [hk k (by simpa using hkl)]
        omega
theorem rgL_nodup (a b : Int) : (rgL a b).Nodup := by
  unfold rgL
  refine List.Pairwise.map _ (fun x y h e => ?_) List.nodup_range
  apply h; omega
theorem filter_one {α : Type} [DecidableEq α] {p : α → Bool} {i : α} : ∀ {l : List α}, l.Nodup → i ∈ l → (∀ x ∈ l, p x = true ↔ x = i) → l.filter p = [i]
  | [], _, h, _ => by simp at h
  | x :: l, nd, h, hp => by
    obtain ⟨n1, n2⟩ := List.nodup_cons.mp nd
    by_cases hx : x = i
    · subst hx
      rw [List.filter_cons, if_pos ((hp x (by simp)).mpr rfl)]
      congr 1
      rw [List.filter_eq_nil_iff]
      intro y hy z
      have := (hp y (by simp [hy])).mp z
      subst this
      exact n1 hy
    · rw [List.filter_cons, if_neg (fun z => hx ((hp x (by simp)).mp z))]
      exact filter_one n2 (by rcases List.mem_cons.mp h with z | z; exact absurd z.symm hx; exact z) fun y hy => hp y (by simp [hy])
theorem fm_filter {α β : Type} (p : α → Bool) (f : α → β) (l : List α) : l.filterMap (fun x => if p x = true then some (f x) else none) = (l.filter p).map f := by
  induction l with
  | nil => rfl
  | cons x l ih =>
    rw [List.filterMap_cons, List.filter_cons]
    by_cases h : p x = true
    · simp [h, ih]
    · simp [h, ih]
def unl (a b : List Int) (x : Int) : Bool := decide (gD a x.toNat ≠ gD b x.toNat)
/-- the one place in which a step changes the row -/
theorem grow_one {bs : List Int} {n : Int} (hb : ∀ b ∈ bs, 0 < b) (h0 : 0 ≤ n) (h : n + 1 < prodL bs) : ∃ i : Int, 0 ≤ i ∧ i < bs.length ∧ (rgL 0 bs.length).filter (unl (grow bs n) (grow bs (n + 1))) = [i] := by
  obtain ⟨i, hi, hk⟩ := grow_next hb h0 h
  refine ⟨i, by omega, by omega, filter_one (rgL_nodup _ _) (mem_ints2.mpr ⟨by omega, by omega⟩) fun x hx => ?_⟩
  obtain ⟨x0, x1⟩ := mem_ints2.mp hx
  unfold unl
  rw [decide_eq_true_eq, hk x.toNat (by omega)]
  omega
/-! ### the program's defs -/
def goodB (bs : List Int) : Prop := ∀ b ∈ bs, 2 ≤ b ∧ b ≤ 1000000
theorem rows_many_wp {n : Nat} {bs : List Int} {Q X} (hb : goodB bs) (h : Q (sh (.int (prodL bs))) []) : Phi T (n + 1) "rows_many" [false] [sh (.tuple (intsD bs))] Q X := by
  refine run2 pk_rows_many rfl rfl fun kk hr _ _ => ?_
  unfold pd_rows_many d_rows_many
  walk_at "s"
  walk_at "s"
  refine for_ints (fun i ρ' => ∃ o, ρ' = [some (sh (.tuple (intsD bs))), some (sh (.int (prodL (bs.take i)))), o]) ⟨none, rfl⟩ ?_ ?_
  · rintro i x ρ' K hx hi ⟨o, rfl⟩ hn _ _ _
    have hbx := hb x (List.mem_of_getElem? hx)
    walk_at "w"
    walk_at "s"
    refine ⟨mul_r ⟨by omega, by omega⟩, ?_⟩
    refine hn _ ⟨some (sh (.int x)), ?_⟩
    rw [prodL_take hx]
  · rintro ρ' ⟨o, rfl⟩
    walk_at "s"
    exact hr _ _ [] rfl (by simpa using h)
end MS
local macro_rules | `(tactic| walk_at "s") => `(tactic| (refine MS.ss ?_; try simp -implicitDefEqProofs))
local macro_rules | `(tactic| walk_at "w") => `(tactic| (try simp -implicitDefEqProofs))
local macro_rules | `(tactic| walk_at "a") => `(tactic| (repeat (refine And.intro (by omega) ?_)))
namespace MS
open PySem
/-! ### the counters' laws: what they draw and reckon -/
theorem law_many_wp {n : Nat} {bs : List Int} {Q X} (hb : goodB bs) (h : Q (sh (.int (prodL bs))) []) : Phi T (n + 1) "_law_many" [false] [sh (.tuple (intsD bs))] Q X := by
  refine run2 pk__law_many rfl rfl fun kk hr _ _ => ?_
  unfold pd__law_many d__law_many
  walk_at "s"
  walk_at "s"
  refine for_ints (fun i ρ' => ∃ o, ρ' = [some (sh (.tuple (intsD bs))), some (sh (.int (prodL (bs.take i)))), o]) ⟨none, rfl⟩ ?_ ?_
  · rintro i x ρ' K hx hi ⟨o, rfl⟩ hn _ _ _
    have hbx := hb x (List.mem_of_getElem? hx)
    walk_at "w"
    walk_at "s"
    refine ⟨mul_r ⟨by omega, by omega⟩, ?_⟩
    refine hn _ ⟨some (sh (.int x)), ?_⟩
    rw [prodL_take hx]
  · rintro ρ' ⟨o, rfl⟩
    walk_at "s"
    exact hr _ _ [] rfl (by simpa using h)
theorem tri {q b : Int} (hb : 0 < b) : (if 2 * b - 1 - q % (2 * b) < q % (2 * b) then 2 * b - 1 - q % (2 * b) else q % (2 * b)) = (if q / b % 2 = 1 then b - 1 - q % b else q % b) := by
  have m := md q b hb
  have m2 := md (q / b) 2 (by decide)
  have e : q % (2 * b) = b * (q / b % 2) + q % b := by
    have e1 := Int.emod_add_mul_ediv q b
    have e2 := Int.emod_add_mul_ediv (q / b) 2
    have e3 : q = (b * (q / b % 2) + q % b) + 2 * b * (q / b / 2) := by
      have : b * (q / b) = b * (q / b % 2) + 2 * b * (q / b / 2) := by
        conv => lhs; rw [← e2]
        rw [Int.mul_add, Int.mul_assoc, ← Int.mul_assoc b 2, Int.mul_comm b 2, Int.mul_assoc]
      omega
    have hlo : 0 ≤ b * (q / b % 2) + q % b := by
      have := Int.mul_nonneg (Int.le_of_lt hb) m2.1
      omega
    have hhi : b * (q / b % 2) + q % b < 2 * b := by
      have : b * (q / b % 2) ≤ b * 1 := Int.mul_le_mul_of_nonneg_left (by omega) (Int.le_of_lt hb)
      omega
    conv => lhs; rw [e3]
    rw [Int.add_mul_emod_self_left, Int.emod_eq_of_lt hlo hhi]
  rw [e]
  have h01 : q / b % 2 = 0 ∨ q / b % 2 = 1 := by omega
  rcases h01 with h | h
  · rw [h, Int.mul_zero, Int.zero_add, if_neg (by omega), if_neg (by decide)]
  · rw [h, Int.mul_one, if_pos (by omega), if_pos rfl]
    omega
theorem law_row_wp {n : Nat} {bs : List Int} {st : Int} {Q X} (hb : goodB bs) (hl : bs.length ≤ 1000) (hp : prodL bs < 10 ^ 59) (h : Q (sh (.tuple (intsD (grow bs st)))) []) : Phi T (n + 1) "_law_row" [false, false] [sh (.tuple (intsD bs)), sh (.int st)] Q X := by
  refine run2 pk__law_row rfl rfl fun kk hr _ _ => ?_
  unfold pd__law_row d__law_row
  have hz := sizeLine_big
  walk_at "s"
  walk_at "s"
  walk_at "s"
  refine for_ints (fun i ρ' => ∃ acc o o2, acc.length = i ∧ acc ++ grow (bs.drop i) (st / prodL (bs.take i)) = grow bs st ∧ ρ' = [some (sh (.tuple (intsD bs))), some (sh (.int st)), some (ownL (.list (intsD acc))), some (sh (.int (prodL (bs.take i)))), o, o2]) ⟨[], none, none, rfl, by simp [prodL], rfl⟩ ?_ ?_
  · rintro i x ρ' K hx hi ⟨acc, o, o2, ha, hg, rfl⟩ hn _ _ _
    have hbx := hb x (List.mem_of_getElem? hx)
    have pl := prodL_le (fun b hb' => by have := hb b hb'; omega) i (bs := bs)
    rw [drop_get hx] at hg
    walk_at "w"
    walk_at "s"
    refine ⟨div_w pl.2 (by omega), mul_l (by decide), by omega, ?_⟩
    walk_at "s"
    refine ⟨mul_l (by decide), by omega, ?_⟩
    rw [tri (by omega)]
    walk_at "s"
    refine ⟨mul_r (by omega), ?_⟩
    simp only [prodL_take hx] at hn
    refine hn _ ⟨_, _, _, ?_, ?_, rfl⟩
    · simp [ha]
    · rw [← hg, ← Int.ediv_ediv_of_nonneg (Int.le_of_lt pl.2)]
      simp [grow]
  · rintro ρ' ⟨acc, o, o2, ha, hg, rfl⟩
    rw [List.drop_length] at hg
    have hg : acc = grow bs st := by simpa [grow] using hg
    subst hg
    walk_at "s"
    exact hr _ _ [] rfl h
end MS
local macro_rules | `(tactic| walk_at "s") => `(tactic| (refine MS.ss ?_; try simp -implicitDefEqProofs))
local macro_rules | `(tactic| walk_at "w") => `(tactic| (try simp -implicitDefEqProofs))
local macro_rules | `(tactic| walk_at "a") => `(tactic| (repeat (refine And.intro (by omega) ?_)))
namespace MS
open PySem
/-! ### a row's step -/
def badPl (bs r : List Int) (p : Nat) : Prop := bs.length ≤ p ∨ r.length ≤ p ∨ ¬ (0 ≤ gD r p ∧ gD r p < gD bs p)
structure FirstBad (bs r : List Int) (p : Nat) : Prop where
  lt : p < max bs.length r.length
  bad : badPl bs r p
  ahead : ∀ q, q < p → ¬ badPl bs r q
theorem FirstBad.uniq {bs r : List Int} {p q : Nat} (a : FirstBad bs r p) (b : FirstBad bs r q) : p = q := by
  by_cases h : p < q
  · exact absurd a.bad (b.ahead p h)
  · by_cases h' : q < p
    · exact absurd b.bad (a.ahead q h')
    · omega
def stepF : List Int → List Int → Int
  | b :: bs, d :: ds => stepF bs ds * b + (if stepF bs ds % 2 = 1 then b - 1 - d else d)
  | _, _ => 0
theorem stepF_grow : ∀ {bs : List Int} {n : Int}, (∀ b ∈ bs, 0 < b) → 0 ≤ n → n < prodL bs → stepF bs (grow bs n) = n
  | [], n, _, h0, h => by simp [prodL] at h; simp [stepF]; omega
  | b :: bs, n, hb, h0, h => by
    have b0 := hb b (by simp)
    have h1 : n / b < prodL bs := Int.ediv_lt_of_lt_mul b0 (by rw [Int.mul_comm]; exact h)
    have ih := stepF_grow (fun x hx => hb x (by simp [hx])) (Int.ediv_nonneg h0 (Int.le_of_lt b0)) h1
    have e := Int.emod_add_mul_ediv n b
    have e2 : n / b * b = b * (n / b) := Int.mul_comm _ _
    simp only [grow, stepF, ih]
    split <;> omega
theorem grow_ok : ∀ {bs : List Int} {n : Int}, (∀ b ∈ bs, 0 < b) → ∀ p, p < bs.length → 0 ≤ gD (grow bs n) p ∧ gD (grow bs n) p < gD bs p
  | [], n, _, p, h => by simp at h
  | b :: bs, n, hb, 0, h => by
    have b0 := hb b (by simp)
    have m := md n b b0
    simp only [grow, gD_zero]
    split <;> omega
  | b :: bs, n, hb, p + 1, h => by
    simp only [grow, gD_succ]
    exact grow_ok (fun x hx => hb x (by simp [hx])) p (by simpa using h)
theorem grow_good {bs : List Int} {n : Int} (hb : ∀ b ∈ bs, 0 < b) (p : Nat) (h : p < max bs.length (grow bs n).length) : ¬ badPl bs (grow bs n) p := by
  rw [grow_len, Nat.max_self] at h
  have := grow_ok (n := n) hb p h
  unfold badPl
  rw [grow_len]
  omega
theorem rev_get {α : Type} {l : List α} {i : Nat} {d : α} (h : l.reverse[i]? = some d) : i < l.length ∧ l[l.length - 1 - i]? = some d := by
  have hl : i < l.length := by
    have := (List.getElem?_eq_some_iff.mp h).1
    simpa using this
  rw [List.getElem?_reverse hl] at h
  exact ⟨hl, h⟩
end MS
local macro_rules | `(tactic| walk_at "s") => `(tactic| (refine MS.ss ?_; try simp -implicitDefEqProofs))
local macro_rules | `(tactic| walk_at "w") => `(tactic| (try simp -implicitDefEqProofs))
local macro_rules | `(tactic| walk_at "a") => `(tactic| (repeat (refine And.intro (by omega) ?_)))
namespace MS
open PySem
/-! ### rounds looked at -/
def rowT (r : List Int) : D := .tuple (intsD r)
/-- how far two rows are apart -/
def apartL (a b : List Int) : List Int := (List.range (min a.length b.length)).map fun i => (if gD a i - gD b i < 0 then -(gD a i - gD b i) else gD a i - gD b i)
def nextB (a b : List Int) : Bool := decide (a.length = b.length) && decide ((apartL a b).sum = 1)
def digB (bs r : List Int) (k : Nat) : Bool := decide (0 ≤ gD r k) && decide (gD r k < gD bs k)
def okRw (bs r : List Int) : Bool := decide (r.length = bs.length) && (List.range r.length).all (digB bs r)
theorem is_next_wp {n : Nat} {a b : List Int} {Q X} (hl : a.length ≤ 1000) (q : Q (sh (.bool (nextB a b))) []) : Phi T (n + 1) "is_next" [false, false] [sh (rowT a), sh (rowT b)] Q X := by
  refine run3 pk_is_next rfl rfl fun Φ hΦ kk hr _ _ => ?_
  unfold pd_is_next d_is_next rowT
  have hz := sizeLine_big
  walk_at "s"
  refine ⟨by omega, ?_⟩
  refine wpComp_ints (fun ρ' => ∃ o3 o4, ρ' = [some (sh (.tuple (intsD a))), some (sh (.tuple (intsD b))), none, o3, o4]) (fun i => if gD a i - gD b i < 0 then -(gD a i - gD b i) else gD a i - gD b i) ⟨_, _, rfl⟩ ?_ ?_
  · rintro i d ρ' K hd ⟨o3, o4, rfl⟩ hk
    obtain ⟨h1, h2, rfl⟩ := zip_at hd
    walk_at "w"
    exact hk _ _ rfl ⟨_, _, rfl⟩
  rintro ρ' ⟨o3, o4, rfl⟩
  walk_at "w"
  unfold nextB apartL at q
  generalize ((List.range (min a.length b.length)).map fun i => (if gD a i - gD b i < 0 then -(gD a i - gD b i) else gD a i - gD b i)) = l at q ⊢
  walk_at "s"
  by_cases e1 : (a.length : Int) = b.length
  · rw [if_pos e1]
    rw [decide_eq_true (show a.length = b.length by omega), Bool.true_and] at q
    exact hr _ _ [] rfl q
  · rw [if_neg e1]
    rw [decide_eq_false (show ¬ a.length = b.length by omega), Bool.false_and] at q
    exact hr _ _ [] rfl q
/-- the look at rows -/
def inRow (rs : List (List Int)) : Bool := (List.range (rs.length - 1)).all fun i => nextB (rs.getD i []) (rs.getD (i + 1) [])
def shownB (bs : List Int) (rs : List (List Int)) : Bool := rs.all (okRw bs) && decide ((rs.length : Int) = prodL bs) && decide (rs.eraseDups.length = rs.length) && inRow rs
def closesB (rs : List (List Int)) : Bool := decide (rs.length = 1) || nextB (rs.getD (rs.length - 1) []) (rs.getD 0 [])
theorem rows_at {rs : List (List Int)} {i : Nat} (h : i < rs.length) : (rs.map rowT)[i]? = some (rowT (rs.getD i [])) := by
  rw [List.getElem?_map, List.getElem?_eq_getElem h, List.getD_eq_getElem?_getD, List.getElem?_eq_getElem h]; rfl
theorem round_shown_wp {n : Nat} {bs : List Int} {rs : List (List Int)} {Q X} (hb : goodB bs) (hl : bs.length ≤ 1000) (hn : rs.length ≤ 305) (hrl : ∀ r ∈ rs, r.length ≤ 1000)
    (q : Q (sh (.tuple [.bool (shownB bs rs), .bool (shownB bs rs && closesB rs)])) []) : Phi T (n + 2) "round_shown" [false, false] [sh (.tuple (intsD bs)), sh (.list (rs.map rowT))] Q X := by
  refine run3 pk_round_shown rfl rfl fun Φ hΦ kk hr _ _ => ?_
  unfold pd_round_shown d_round_shown
  have hz := sizeLine_big
  have no : ∀ ρ, shownB bs rs = false → kk.rt (sh (.tuple [.bool false, .bool false])) (some (sh (.tuple (intsD bs))) :: some (sh (.list (rs.map rowT))) :: ρ) := fun ρ e => by
    rw [e] at q
    exact hr _ _ [] rfl q
  walk_at "s"
  refine for_any (fun i ρ' => (∀ j, j < i → okRw bs (rs.getD j []) = true) ∧ ∃ o2, ρ' = [some (sh (.tuple (intsD bs))), some (sh (.list (rs.map rowT))), o2, none, none]) ⟨fun j h => by omega, none, rfl⟩ ?_ ?_
  · rintro i d ρ' K hd hi ⟨I, o2, rfl⟩ hn' hrt _ _
    have hi : i < rs.length := by simpa using hi
    rw [rows_at hi] at hd
    have hd := (Option.some.inj hd).symm
    subst hd
    have hrm : rs.getD i [] ∈ rs := by
      rw [List.getD_eq_getElem?_getD, List.getElem?_eq_getElem hi]; exact List.getElem_mem hi
    have hr2 := hrl _ hrm
    have bad : okRw bs (rs.getD i []) = false → shownB bs rs = false := fun z => by
      unfold shownB
      cases h : rs.all (okRw bs) with
      | false => rfl
      | true => rw [List.all_eq_true.mp h _ hrm] at z; cases z
    have next : okRw bs (rs.getD i []) = true → K.nx [some (sh (.tuple (intsD bs))), some (sh (.list (rs.map rowT))), some (sh (rowT (rs.getD i []))), none, none] := fun z => hn' _ ⟨fun j hj => by
      by_cases e : j = i
      · rw [e]; exact z
      · exact I j (by omega), _, rfl⟩
    generalize rs.getD i [] = r at hr2 bad next
    unfold rowT at next ⊢
    walk_at "w"
    walk_at "s"
    have lose : okRw bs r = false → wpSs Φ u_round_shown_2_0 [some (sh (.tuple (intsD bs))), some (sh (.list (rs.map fun r => .tuple (intsD r)))), some (sh (.tuple (intsD r))), none, none] { nx := fun ρ' => K.nx ρ', rt := K.rt, bk := K.bk, ct := K.ct, xe := K.xe } := fun z => by
      walk_at "s"
      exact ⟨by omega, hrt _ _ (no _ (bad z))⟩
    by_cases e1 : (r.length : Int) = bs.length
    · rw [if_pos e1]
      have e1' : r.length = bs.length := by omega
      refine ⟨by omega, ?_⟩
      refine wpComp_inv (fun i acc ρ' => ∃ (l : List Int) (o3 o4 : Option Ety), acc.reverse = intsD l ∧ (l = [] ↔ ∀ k, k < i → digB bs r k = true) ∧ ρ' = [some (sh (.tuple (intsD bs))), some (sh (.list (rs.map fun r => .tuple (intsD r)))), some (sh (.tuple (intsD r))), o3, o4]) ⟨[], _, _, rfl, by simp, rfl⟩ ?_ ?_
      · rintro k d acc ρ' K2 hd ⟨l, o3, o4, hacc, hl2, rfl⟩ hno hyes
        obtain ⟨hk, rfl⟩ := enum_at hd
        have yes : digB bs r k = true → K2 none [some (sh (.tuple (intsD bs))), some (sh (.list (rs.map fun r => .tuple (intsD r)))), some (sh (.tuple (intsD r))), some (sh (.int k)), some (sh (.int (gD r k)))] := fun z =>
          hno _ ⟨l, _, _, hacc, by
            rw [hl2]
            refine ⟨fun h j hj => ?_, fun h j hj => h j (by omega)⟩
            by_cases e : j = k
            · rw [e]; exact z
            · exact h j (by omega), rfl⟩
        have nay : digB bs r k = false → K2 (some (sh (.int k))) [some (sh (.tuple (intsD bs))), some (sh (.list (rs.map fun r => .tuple (intsD r)))), some (sh (.tuple (intsD r))), some (sh (.int k)), some (sh (.int (gD r k)))] := fun z =>
          hyes _ _ ⟨l ++ [(k : Int)], _, _, by rw [List.reverse_cons, hacc, ints_app1], ⟨fun h => absurd h (by simp), fun h => by
            rw [h k (by omega)] at z; cases z⟩, rfl⟩
        walk_at "w"
        by_cases c1 : 0 ≤ gD r k
        · rw [if_pos c1]
          refine ⟨_, ix_gD (by omega), ?_⟩
          walk_at "w"
          by_cases c2 : gD r k < gD bs k
          · rw [if_pos c2]
            exact yes (by unfold digB; rw [decide_eq_true c1, decide_eq_true c2]; rfl)
          · rw [if_neg c2]
            exact nay (by unfold digB; rw [decide_eq_false c2, Bool.and_false])
        · rw [if_neg c1]
          exact nay (by unfold digB; rw [decide_eq_false c1, Bool.false_and])
      · rintro acc ρ' ⟨l, o3, o4, hacc, hl2, rfl⟩
        rw [hacc]
        walk_at "w"
        have hall : l = [] ↔ okRw bs r = true := by
          rw [hl2]
          unfold okRw
          rw [decide_eq_true e1', Bool.true_and, List.all_eq_true]
          refine ⟨fun h k hk => h k ?_, fun h k hk => h k (List.mem_range.mpr ?_)⟩
          · have := List.mem_range.mp hk
            simpa using this
          · simpa using hk
        by_cases hl0 : l = []
        · rw [if_pos hl0]
          exact next (hall.mp hl0)
        · rw [if_neg hl0]
          refine lose ?_
          cases h : okRw bs r with
          | false => rfl
          | true => exact absurd (hall.mpr h) hl0
    · rw [if_neg e1]
      refine lose ?_
      unfold okRw
      rw [decide_eq_false (show ¬ r.length = bs.length by omega)]; rfl
  · rintro ρ' ⟨I, o2, rfl⟩
    have good : rs.all (okRw bs) = true := List.all_eq_true.mpr fun r hr => by
      obtain ⟨j, hj, e⟩ := List.getElem_of_mem hr
      have := I j (by simpa using hj)
      rwa [List.getD_eq_getElem?_getD, List.getElem?_eq_getElem hj, e] at this
    walk_at "w"
    walk_at "s"
    refine to_ hΦ (rows_many_wp (n := n) hb ?_)
    walk_at "w"
    by_cases c1 : (rs.length : Int) = prodL bs
    · rw [if_pos c1]
      refine ⟨rs, rfl, hn, ?_⟩
      walk_at "w"
      have hp := prodL_pos (bs := bs) fun b hbb => by have := hb b hbb; omega
      by_cases c2 : (rs.eraseDups.length : Int) = rs.length
      · rw [if_pos c2]
        have base : shownB bs rs = inRow rs := by
          unfold shownB
          rw [good, decide_eq_true c1, decide_eq_true (show rs.eraseDups.length = rs.length by omega)]; rfl
        walk_at "s"
        refine ⟨by omega, by omega, ?_⟩
        refine wpComp_inv (fun i acc ρ' => ∃ (l : List Int) (o3 : Option Ety), acc.reverse = intsD l ∧ (l = [] ↔ ∀ k, k < i → nextB (rs.getD k []) (rs.getD (k + 1) []) = true) ∧ ρ' = [some (sh (.tuple (intsD bs))), some (sh (.list (rs.map rowT))), o2, o3, none]) ⟨[], _, rfl, by simp, rfl⟩ ?_ ?_
        · rintro k d acc ρ' K2 hd ⟨l, o3, hacc, hl2, rfl⟩ hno hyes
          obtain ⟨y, hy, rfl⟩ := ints_of hd
          have hj := (List.getElem?_eq_some_iff.mp hy).1
          rw [rgL_length] at hj
          rw [ints_at (by omega)] at hy
          obtain rfl := Option.some.inj hy
          have hk : k + 1 < rs.length := by omega
          have ix1 : L2.atI (rs.map rowT) (1 + (k : Int) - 1) = some (rowT (rs.getD k [])) := atI_nat (by omega) (by rw [show (1 + (k : Int) - 1).toNat = k by omega]; exact rows_at (by omega))
          have ix2 : L2.atI (rs.map rowT) (1 + (k : Int)) = some (rowT (rs.getD (k + 1) [])) := atI_nat (by omega) (by rw [show (1 + (k : Int)).toNat = k + 1 by omega]; exact rows_at hk)
          have hlk : (rs.getD k []).length ≤ 1000 := hrl _ (by rw [List.getD_eq_getElem?_getD, List.getElem?_eq_getElem (show k < rs.length by omega)]; exact List.getElem_mem _)
          walk_at "w"
          refine ⟨_, ix1, _, ix2, to_ hΦ (is_next_wp (n := n) hlk ?_)⟩
          cases c3 : nextB (rs.getD k []) (rs.getD (k + 1) []) with
          | true =>
            walk_at "w"
            exact hno _ ⟨l, _, hacc, by
              rw [hl2]
              refine ⟨fun h j hj => ?_, fun h j hj => h j (by omega)⟩
              by_cases e : j = k
              · rw [e]; exact c3
              · exact h j (by omega), rfl⟩
          | false =>
            walk_at "w"
            exact hyes _ _ ⟨l ++ [1 + (k : Int)], _, by rw [List.reverse_cons, hacc, ints_app1], ⟨fun h => absurd h (by simp), fun h => by
              rw [h k (by omega)] at c3; cases c3⟩, rfl⟩
        · rintro acc ρ' ⟨l, o3, hacc, hl2, rfl⟩
          rw [hacc]
          have hrow : l = [] ↔ inRow rs = true := by
            rw [hl2]
            unfold inRow
            rw [List.all_eq_true]
            refine ⟨fun h k hk => h k ?_, fun h k hk => h k (List.mem_range.mpr ?_)⟩
            · have := List.mem_range.mp hk
              simp; omega
            · simp at hk; omega
          walk_at "w"
          by_cases hl0 : l = []
          · rw [if_pos hl0]
            have yes := hrow.mp hl0
            rw [base, yes, Bool.true_and] at q
            have l1 : 1 ≤ rs.length := by omega
            unfold closesB at q
            have ixl : L2.atI (rs.map rowT) (-1) = some (rowT (rs.getD (rs.length - 1) [])) := atI_neg (by decide) (by simp; omega) (by rw [List.length_map, show (-1 + (rs.length : Int)).toNat = rs.length - 1 by omega]; exact rows_at (by omega))
            have hll : (rs.getD (rs.length - 1) []).length ≤ 1000 := hrl _ (by rw [List.getD_eq_getElem?_getD, List.getElem?_eq_getElem (show rs.length - 1 < rs.length by omega)]; exact List.getElem_mem _)
            walk_at "s"
            by_cases c3 : (rs.length : Int) = 1
            · rw [if_pos c3]
              rw [decide_eq_true (show rs.length = 1 by omega), Bool.true_or] at q
              exact ⟨by omega, hr _ _ [] rfl q⟩
            · rw [if_neg c3]
              rw [decide_eq_false (show ¬ rs.length = 1 by omega), Bool.false_or] at q
              refine ⟨_, ixl, _, atI_nat (by decide) (rows_at (i := 0) (by omega)), to_ hΦ (is_next_wp (n := n) hll ?_)⟩
              walk_at "w"
              exact ⟨by omega, hr _ _ [] rfl q⟩
          · rw [if_neg hl0]
            walk_at "s"
            refine ⟨by omega, no _ ?_⟩
            rw [base]
            cases h : inRow rs with
            | false => rfl
            | true => exact absurd (hrow.mpr h) hl0
      · rw [if_neg c2]
        walk_at "s"
        exact ⟨by omega, no _ (by unfold shownB; rw [decide_eq_false (show ¬ rs.eraseDups.length = rs.length by omega), Bool.and_false]; rfl)⟩
    · rw [if_neg c1]
      walk_at "s"
      exact ⟨by omega, no _ (by unfold shownB; rw [decide_eq_false c1, Bool.and_false]; rfl)⟩
end MS
local macro_rules | `(tactic| walk_at "s") => `(tactic| (refine MS.ss ?_; try simp -implicitDefEqProofs))
local macro_rules | `(tactic| walk_at "w") => `(tactic| (try simp -implicitDefEqProofs))
local macro_rules | `(tactic| walk_at "a") => `(tactic| (repeat (refine And.intro (by omega) ?_)))
namespace MS
open PySem
/-! ### k54's own look at rows -/
def besB (a b : List Int) : Bool := decide ((apartL a b).sum = 1)
theorem bes_next {a b : List Int} (h : a.length = b.length) : nextB a b = besB a b := by
  unfold nextB besB
  rw [decide_eq_true h, Bool.true_and]
theorem beside_wp {n : Nat} {a b : List Int} {Q X} (hl : a.length ≤ 1000) (q : Q (sh (.bool (besB a b))) []) : Phi T (n + 1) "_law_beside" [false, false] [sh (rowT a), sh (rowT b)] Q X := by
  refine run3 pk__law_beside rfl rfl fun Φ hΦ kk hr _ _ => ?_
  unfold pd__law_beside d__law_beside rowT
  have hz := sizeLine_big
  walk_at "s"
  refine ⟨by omega, ?_⟩
  refine wpComp_ints (fun ρ' => ∃ o3 o4, ρ' = [some (sh (.tuple (intsD a))), some (sh (.tuple (intsD b))), none, o3, o4]) (fun i => if gD a i - gD b i < 0 then -(gD a i - gD b i) else gD a i - gD b i) ⟨_, _, rfl⟩ ?_ ?_
  · rintro i d ρ' K hd ⟨o3, o4, rfl⟩ hk
    obtain ⟨h1, h2, rfl⟩ := zip_at hd
    walk_at "w"
    exact hk _ _ rfl ⟨_, _, rfl⟩
  rintro ρ' ⟨o3, o4, rfl⟩
  walk_at "w"
  unfold besB apartL at q
  generalize ((List.range (min a.length b.length)).map fun i => (if gD a i - gD b i < 0 then -(gD a i - gD b i) else gD a i - gD b i)) = l at q ⊢
  walk_at "s"
  exact hr _ _ [] rfl q
theorem due_wp {n : Nat} {bs : List Int} {rs : List (List Int)} {Q X} (hb : goodB bs) (hl : bs.length ≤ 1000) (hn : rs.length ≤ 305) (hrl : ∀ r ∈ rs, r.length ≤ 1000)
    (q : Q (sh (.tuple [.bool (shownB bs rs), .bool (shownB bs rs && closesB rs)])) []) : Phi T (n + 2) "_law_due" [false, false] [sh (.tuple (intsD bs)), sh (.list (rs.map rowT))] Q X := by
  refine run3 pk__law_due rfl rfl fun Φ hΦ kk hr _ _ => ?_
  unfold pd__law_due d__law_due
  have hz := sizeLine_big
  have no : ∀ ρ, shownB bs rs = false → kk.rt (sh (.tuple [.bool false, .bool false])) (some (sh (.tuple (intsD bs))) :: some (sh (.list (rs.map rowT))) :: ρ) := fun ρ e => by
    rw [e] at q
    exact hr _ _ [] rfl q
  walk_at "s"
  refine for_any (fun i ρ' => (∀ j, j < i → okRw bs (rs.getD j []) = true) ∧ ∃ o2, ρ' = [some (sh (.tuple (intsD bs))), some (sh (.list (rs.map rowT))), o2, none, none, none]) ⟨fun j h => by omega, none, rfl⟩ ?_ ?_
  · rintro i d ρ' K hd hi ⟨I, o2, rfl⟩ hn' hrt _ _
    have hi : i < rs.length := by simpa using hi
    rw [rows_at hi] at hd
    have hd := (Option.some.inj hd).symm
    subst hd
    have hrm : rs.getD i [] ∈ rs := by
      rw [List.getD_eq_getElem?_getD, List.getElem?_eq_getElem hi]; exact List.getElem_mem hi
    have hr2 := hrl _ hrm
    have bad : okRw bs (rs.getD i []) = false → shownB bs rs = false := fun z => by
      unfold shownB
      cases h : rs.all (okRw bs) with
      | false => rfl
      | true => rw [List.all_eq_true.mp h _ hrm] at z; cases z
    have next : okRw bs (rs.getD i []) = true → K.nx [some (sh (.tuple (intsD bs))), some (sh (.list (rs.map rowT))), some (sh (rowT (rs.getD i []))), none, none, none] := fun z => hn' _ ⟨fun j hj => by
      by_cases e : j = i
      · rw [e]; exact z
      · exact I j (by omega), _, rfl⟩
    generalize rs.getD i [] = r at hr2 bad next
    unfold rowT at next ⊢
    walk_at "w"
    walk_at "s"
    by_cases e1 : (r.length : Int) = bs.length
    · rw [if_pos e1]
      have e1' : r.length = bs.length := by omega
      walk_at "s"
      refine ⟨by omega, by omega, ?_⟩
      refine wpComp_inv (fun i acc ρ' => ∃ (l : List Int) (o3 : Option Ety), acc.reverse = intsD l ∧ (l = [] ↔ ∀ k, k < i → digB bs r k = true) ∧ ρ' = [some (sh (.tuple (intsD bs))), some (sh (.list (rs.map fun r => .tuple (intsD r)))), some (sh (.tuple (intsD r))), o3, none, none]) ⟨[], _, rfl, by simp, rfl⟩ ?_ ?_
      · rintro k d acc ρ' K2 hd ⟨l, o3, hacc, hl2, rfl⟩ hno hyes
        obtain ⟨y, hy, rfl⟩ := ints_of hd
        have hj := (List.getElem?_eq_some_iff.mp hy).1
        rw [rgL_length] at hj
        rw [ints_at (by omega)] at hy
        obtain rfl := Option.some.inj hy
        have hk : k < r.length := by omega
        have ey : (0 : Int) + (k : Int) = k := by omega
        rw [ey]
        have yes : digB bs r k = true → K2 none [some (sh (.tuple (intsD bs))), some (sh (.list (rs.map fun r => .tuple (intsD r)))), some (sh (.tuple (intsD r))), some (sh (.int k)), none, none] := fun z =>
          hno _ ⟨l, _, hacc, by
            rw [hl2]
            refine ⟨fun h j hj => ?_, fun h j hj => h j (by omega)⟩
            by_cases e : j = k
            · rw [e]; exact z
            · exact h j (by omega), rfl⟩
        have nay : digB bs r k = false → K2 (some (sh (.int k))) [some (sh (.tuple (intsD bs))), some (sh (.list (rs.map fun r => .tuple (intsD r)))), some (sh (.tuple (intsD r))), some (sh (.int k)), none, none] := fun z =>
          hyes _ _ ⟨l ++ [(k : Int)], _, by rw [List.reverse_cons, hacc, ints_app1], ⟨fun h => absurd h (by simp), fun h => by
            rw [h k (by omega)] at z; cases z⟩, rfl⟩
        walk_at "w"
        refine ⟨_, ix_gD hk, ?_⟩
        walk_at "w"
        by_cases c1 : 0 ≤ gD r k
        · rw [if_pos c1]
          refine ⟨_, ix_gD (by omega), ?_⟩
          walk_at "w"
          by_cases c2 : gD r k < gD bs k
          · rw [if_pos c2]
            exact yes (by unfold digB; rw [decide_eq_true c1, decide_eq_true c2]; rfl)
          · rw [if_neg c2]
            exact nay (by unfold digB; rw [decide_eq_false c2, Bool.and_false])
        · rw [if_neg c1]
          exact nay (by unfold digB; rw [decide_eq_false c1, Bool.false_and])
      · rintro acc ρ' ⟨l, o3, hacc, hl2, rfl⟩
        rw [hacc]
        walk_at "w"
        have hall : l = [] ↔ okRw bs r = true := by
          rw [hl2]
          unfold okRw
          rw [decide_eq_true e1', Bool.true_and, List.all_eq_true]
          refine ⟨fun h k hk => h k ?_, fun h k hk => h k (List.mem_range.mpr ?_)⟩
          · have := List.mem_range.mp hk
            simp; omega
          · simp at hk; omega
        by_cases hl0 : l = []
        · rw [if_pos hl0]
          exact next (hall.mp hl0)
        · rw [if_neg hl0]
          walk_at "s"
          refine ⟨by omega, hrt _ _ (no _ (bad ?_))⟩
          cases h : okRw bs r with
          | false => rfl
          | true => exact absurd (hall.mpr h) hl0
    · rw [if_neg e1]
      walk_at "s"
      refine ⟨by omega, hrt _ _ (no _ (bad ?_))⟩
      unfold okRw
      rw [decide_eq_false (show ¬ r.length = bs.length by omega)]; rfl
  · rintro ρ' ⟨I, o2, rfl⟩
    have good : rs.all (okRw bs) = true := List.all_eq_true.mpr fun r hr => by
      obtain ⟨j, hj, e⟩ := List.getElem_of_mem hr
      have := I j (by simpa using hj)
      rwa [List.getD_eq_getElem?_getD, List.getElem?_eq_getElem hj, e] at this
    have lens : ∀ j, j < rs.length → (rs.getD j []).length = bs.length := fun j hj => by
      have := I j (by simpa using hj)
      unfold okRw at this
      rw [Bool.and_eq_true] at this
      simpa using this.1
    walk_at "w"
    walk_at "s"
    refine to_ hΦ (law_many_wp (n := n) hb ?_)
    walk_at "w"
    by_cases c1 : (rs.length : Int) = prodL bs
    · rw [if_pos c1]
      refine ⟨rs, rfl, hn, ?_⟩
      walk_at "w"
      have hp := prodL_pos (bs := bs) fun b hbb => by have := hb b hbb; omega
      by_cases c2 : (rs.eraseDups.length : Int) = rs.length
      · rw [if_pos c2]
        have base : shownB bs rs = inRow rs := by
          unfold shownB
          rw [good, decide_eq_true c1, decide_eq_true (show rs.eraseDups.length = rs.length by omega)]; rfl
        walk_at "s"
        rw [cut_lo (by omega)]
        refine ⟨by simp; omega, ?_⟩
        refine wpComp_inv (fun i acc ρ' => ∃ (l : List Int) (o4 o5 : Option Ety), acc.reverse = intsD l ∧ (l = [] ↔ ∀ k, k < i → nextB (rs.getD k []) (rs.getD (k + 1) []) = true) ∧ ρ' = [some (sh (.tuple (intsD bs))), some (sh (.list (rs.map rowT))), o2, none, o4, o5]) ⟨[], _, _, rfl, by simp, rfl⟩ ?_ ?_
        · rintro k d acc ρ' K2 hd ⟨l, o4, o5, hacc, hl2, rfl⟩ hno hyes
          obtain ⟨a, b, ha, hbb, rfl⟩ := zip_get hd
          have hk : k + 1 < rs.length := by
            have := (List.getElem?_eq_some_iff.mp hbb).1
            simp at this; omega
          rw [rows_at (by omega)] at ha
          rw [show (1 : Int).toNat = 1 from rfl, List.getElem?_drop, Nat.add_comm, rows_at hk] at hbb
          obtain rfl := (Option.some.inj ha).symm
          obtain rfl := (Option.some.inj hbb).symm
          have hlk : (rs.getD k []).length ≤ 1000 := hrl _ (by rw [List.getD_eq_getElem?_getD, List.getElem?_eq_getElem (show k < rs.length by omega)]; exact List.getElem_mem _)
          have eb := bes_next ((lens k (by omega)).trans (lens (k + 1) hk).symm)
          obtain ⟨r1, e1⟩ : ∃ r, r = rs.getD k [] := ⟨_, rfl⟩
          obtain ⟨r2, e2⟩ : ∃ r, r = rs.getD (k + 1) [] := ⟨_, rfl⟩
          rw [← e1] at hlk
          rw [← e1, ← e2] at eb ⊢
          walk_at "w"
          refine to_ hΦ (beside_wp (n := n) hlk ?_)
          rw [← eb, e1, e2]
          cases c3 : nextB (rs.getD k []) (rs.getD (k + 1) []) with
          | true =>
            walk_at "w"
            exact hno _ ⟨l, _, _, hacc, by
              rw [hl2]
              refine ⟨fun h j hj => ?_, fun h j hj => h j (by omega)⟩
              by_cases e : j = k
              · rw [e]; exact c3
              · exact h j (by omega), rfl⟩
          | false =>
            walk_at "w"
            exact hyes _ _ ⟨l ++ [1], _, _, by rw [List.reverse_cons, hacc, ints_app1], ⟨fun h => absurd h (by simp), fun h => by
              rw [h k (by omega)] at c3; cases c3⟩, rfl⟩
        · rintro acc ρ' ⟨l, o4, o5, hacc, hl2, rfl⟩
          rw [hacc]
          have hrow : l = [] ↔ inRow rs = true := by
            rw [hl2]
            unfold inRow
            rw [List.all_eq_true]
            refine ⟨fun h k hk => h k ?_, fun h k hk => h k (List.mem_range.mpr ?_)⟩
            · have := List.mem_range.mp hk
              simp; omega
            · simp at hk; omega
          walk_at "w"
          by_cases hl0 : l = []
          · rw [if_pos hl0]
            have yes := hrow.mp hl0
            rw [base, yes, Bool.true_and] at q
            have l1 : 1 ≤ rs.length := by omega
            unfold closesB at q
            have ixl : L2.atI (rs.map rowT) (-1) = some (rowT (rs.getD (rs.length - 1) [])) := atI_neg (by decide) (by simp; omega) (by rw [List.length_map, show (-1 + (rs.length : Int)).toNat = rs.length - 1 by omega]; exact rows_at (by omega))
            have hll : (rs.getD (rs.length - 1) []).length ≤ 1000 := hrl _ (by rw [List.getD_eq_getElem?_getD, List.getElem?_eq_getElem (show rs.length - 1 < rs.length by omega)]; exact List.getElem_mem _)
            rw [bes_next ((lens (rs.length - 1) (by omega)).trans (lens 0 (by omega)).symm)] at q
            walk_at "s"
            by_cases c3 : (rs.length : Int) = 1
            · rw [if_pos c3]
              rw [decide_eq_true (show rs.length = 1 by omega), Bool.true_or] at q
              exact ⟨by omega, hr _ _ [] rfl q⟩
            · rw [if_neg c3]
              rw [decide_eq_false (show ¬ rs.length = 1 by omega), Bool.false_or] at q
              refine ⟨_, ixl, _, atI_nat (by decide) (rows_at (i := 0) (by omega)), to_ hΦ (beside_wp (n := n) hll ?_)⟩
              walk_at "w"
              exact ⟨by omega, hr _ _ [] rfl q⟩
          · rw [if_neg hl0]
            walk_at "s"
            refine ⟨by omega, no _ ?_⟩
            rw [base]
            cases h : inRow rs with
            | false => rfl
            | true => exact absurd (hrow.mpr h) hl0
      · rw [if_neg c2]
        walk_at "s"
        exact ⟨by omega, no _ (by unfold shownB; rw [decide_eq_false (show ¬ rs.eraseDups.length = rs.length by omega), Bool.and_false]; rfl)⟩
    · rw [if_neg c1]
      walk_at "s"
      exact ⟨by omega, no _ (by unfold shownB; rw [decide_eq_false c1, Bool.and_false]; rfl)⟩
end MS
local macro_rules | `(tactic| walk_at "s") => `(tactic| (refine MS.ss ?_; try simp -implicitDefEqProofs))
local macro_rules | `(tactic| walk_at "w") => `(tactic| (try simp -implicitDefEqProofs))
local macro_rules | `(tactic| walk_at "a") => `(tactic| (repeat (refine And.intro (by omega) ?_)))
namespace MS
open PySem
@[simp] theorem fits_pile {d : D} : fits .raw ⟨.sh, d⟩ = (isScal d = true) := by simp [fits]
/-! ### the pile -/
def pileD (ns : List Int) (a b c e : Int) : D := .list [.list (intsD ns), .int a, .int b, .int c, .int e]
def Pl (d : D) : Prop := ∃ ns a b c e, ns.length ≤ 63 ∧ 0 ≤ a ∧ 0 ≤ c ∧ c < 2147483629 ∧ d = pileD ns a b c e
abbrev pl (d : D) : Ety := ⟨.own .raw, d⟩
theorem pile_wp {n : Nat} {ns : List Int} {Q X} (hl : ns.length ≤ 63) (q : ∀ d, Pl d → Q (pl d) []) : Phi T (n + 1) "_law_pile" [false] [⟨.raw, .list (intsD ns)⟩] Q X := by
  refine run3 pk__law_pile rfl rfl fun Φ hΦ kk hr _ _ => ?_
  unfold pd__law_pile d__law_pile
  have hz := sizeLine_big
  walk_at "s"
  refine ⟨by omega, ?_⟩
  exact hr _ _ [] rfl (q _ ⟨ns, 0, 0, _, 0, hl, by omega, by decide, by decide, rfl⟩)
theorem next_wp {n : Nat} {d : D} {most : Int} {Q X} (hd : Pl d) (m0 : 0 < most) (m1 : most < 2 ^ 240) (q : ∀ (v : Int) (d' : D), 0 ≤ v → v < most → Pl d' → Q (sh (.int v)) [d']) : Phi T (n + 1) "_law_next" [true, false] [pl d, sh (.int most)] Q X := by
  obtain ⟨ns, a, b, c, e, hl, a0, c0, c1, rfl⟩ := hd
  unfold pileD
  refine run3 pk__law_next rfl rfl fun Φ hΦ kk hr _ _ => ?_
  unfold pd__law_next d__law_next
  have hz := sizeLine_big
  have ret : ∀ (x : Int) (a b c e : Int) ρ, 0 ≤ a → 0 ≤ c → c < 2147483629 → kk.rt (sh (.int (x % most))) (some (pl (pileD ns a b c e)) :: some (sh (.int most)) :: ρ) := fun x a b c e ρ a0 c0 c1 => by
    have := md x most m0
    exact hr _ _ [pileD ns a b c e] rfl (q _ _ this.1 this.2 ⟨ns, a, b, c, e, hl, a0, c0, c1, rfl⟩)
  walk_at "s"
  refine ⟨_, atI_nat (by decide) rfl, ?_⟩
  walk_at "w"
  have rest : wpSs Φ u__law_next_0_1 [some (pl (.list [.list (intsD ns), .int a, .int b, .int c, .int e])), some (sh (.int most)), none, none] kk := by
    walk_at "s"
    refine ⟨_, atI_nat (by decide) rfl, ?_⟩
    walk_at "w"
    refine ⟨_, atI_nat (by decide) rfl, ?_⟩
    walk_at "w"
    have tail : wpSs Φ u__law_next_0_2 [some (pl (pileD ns a b c e)), some (sh (.int most)), none, none] kk := by
      unfold pileD
      walk_at "s"
      refine ⟨_, atI_nat (by decide) rfl, ?_⟩
      walk_at "w"
      refine ⟨4, by decide, ?_⟩
      walk_at "w"
      walk_at "s"
      refine ⟨_, atI_nat (by decide) rfl, ?_⟩
      walk_at "w"
      refine ⟨_, atI_nat (by decide) rfl, ?_⟩
      walk_at "w"
      refine ⟨mul_l (by omega), _, atI_nat (by decide) rfl, ?_⟩
      walk_at "w"
      refine ⟨mul_l (by decide), 3, by decide, ?_⟩
      walk_at "w"
      generalize c * c + 40014 * (e + 1) + 977 = t
      have mt := md t 2147483629 (by decide)
      walk_at "s"
      refine ⟨_, atI_nat (by decide) rfl, ?_⟩
      walk_at "w"
      refine ⟨div_ok (by decide), m0, ?_⟩
      exact ret _ _ _ _ _ _ a0 mt.1 mt.2
    split
    · rename_i hlt
      walk_at "s"
      refine ⟨_, atI_nat (by decide) rfl, ?_⟩
      walk_at "w"
      refine ⟨_, atI_nat (by decide) rfl, ?_⟩
      walk_at "w"
      refine ⟨_, ix_gDi a0 hlt, ?_⟩
      walk_at "w"
      generalize gD ns a.toNat = cell
      walk_at "s"
      refine ⟨_, atI_nat (by decide) rfl, ?_⟩
      walk_at "w"
      refine ⟨1, by decide, ?_⟩
      walk_at "w"
      walk_at "s"
      refine ⟨_, atI_nat (by decide) rfl, ?_⟩
      walk_at "w"
      refine ⟨mul_r (by decide), 3, by decide, ?_⟩
      walk_at "w"
      generalize c * 69069 + cell = t
      have mt := md t 2147483629 (by decide)
      have cp18 : L2.CPow 10 18 := by unfold L2.CPow; decide
      walk_at "s"
      refine ⟨cp18, ?_⟩
      generalize (if cell < 0 then -cell else cell) = ab
      split
      · walk_at "s"
        refine ⟨div_w m0 (by omega), 2, by decide, ?_⟩
        walk_at "w"
        walk_at "s"
        refine ⟨m0, ?_⟩
        exact ret _ _ _ _ _ _ (by omega) mt.1 mt.2
      · walk_at "s"
        refine ⟨m0, ?_⟩
        exact ret _ _ _ _ _ _ (by omega) mt.1 mt.2
    · exact tail
  split
  · walk_at "s"
    refine ⟨_, atI_nat (by decide) rfl, ?_⟩
    walk_at "w"
    refine ⟨m0, ?_⟩
    walk_at "s"
    refine ⟨_, atI_nat (by decide) rfl, ?_⟩
    walk_at "w"
    refine ⟨div_w m0 (by omega), 2, by decide, ?_⟩
    walk_at "w"
    walk_at "s"
    exact ret _ _ _ _ _ _ a0 c0 c1
  · exact rest
end MS
local macro_rules | `(tactic| walk_at "s") => `(tactic| (refine MS.ss ?_; try simp -implicitDefEqProofs))
local macro_rules | `(tactic| walk_at "w") => `(tactic| (try simp -implicitDefEqProofs))
local macro_rules | `(tactic| walk_at "a") => `(tactic| (repeat (refine And.intro (by omega) ?_)))
namespace MS
open PySem
theorem law_many_l {n : Nat} {bs : List Int} {Q X} (hb : goodB bs) (h : Q (sh (.int (prodL bs))) []) : Phi T (n + 1) "_law_many" [false] [sh (.list (intsD bs))] Q X := by
  refine run2 pk__law_many rfl rfl fun kk hr _ _ => ?_
  unfold pd__law_many d__law_many
  walk_at "s"
  walk_at "s"
  refine for_ints (fun i ρ' => ∃ o, ρ' = [some (sh (.list (intsD bs))), some (sh (.int (prodL (bs.take i)))), o]) ⟨none, rfl⟩ ?_ ?_
  · rintro i x ρ' K hx hi ⟨o, rfl⟩ hn _ _ _
    have hbx := hb x (List.mem_of_getElem? hx)
    walk_at "w"
    walk_at "s"
    refine ⟨mul_r ⟨by omega, by omega⟩, ?_⟩
    refine hn _ ⟨some (sh (.int x)), ?_⟩
    rw [prodL_take hx]
  · rintro ρ' ⟨o, rfl⟩
    walk_at "s"
    exact hr _ _ [] rfl (by simpa using h)
theorem bases_wp {n : Nat} {d : D} {Q X} (hd : Pl d) (q : ∀ (bs : List Int) (d' : D), goodB bs → bs.length ≤ 5 → (∀ b ∈ bs, b ≤ 9) → prodL bs ≤ 200 → Pl d' → Q (sh (.tuple (intsD bs))) [d']) : Phi T (n + 2) "_law_bases" [true] [pl d] Q X := by
  refine run3 pk__law_bases rfl rfl fun Φ hΦ kk hr _ _ => ?_
  unfold pd__law_bases d__law_bases
  have hz := sizeLine_big
  walk_at "s"
  walk_at "s"
  refine to_ hΦ (next_wp hd (by decide) (by decide) fun v d v0 v1 hd => ?_)
  walk_at "w"
  walk_at "a"
  refine for_rg (fun i ρ' => ∃ d bs o2 o3, Pl d ∧ goodB bs ∧ bs.length ≤ i ∧ (∀ b ∈ bs, b ≤ 9) ∧ prodL bs ≤ 200 ∧ ρ' = [some (pl d), some (ownL (.list (intsD bs))), o2, o3]) ⟨d, [], none, none, hd, by simp [goodB], by simp, by simp, by decide, rfl⟩ ?_ ?_
  · rintro i ρ' K hi ⟨d, bs, o2, o3, hd, hb, hlen, h9, hp, rfl⟩ hn _ _ _
    walk_at "w"
    walk_at "s"
    refine ⟨by omega, ?_⟩
    refine to_ hΦ (next_wp hd (by decide) (by decide) fun a d a0 a1 hd => ?_)
    walk_at "w"
    obtain ⟨x, hx, ex⟩ := ix_mem (l := [2, 8]) (i := a) a0 (by simp; omega)
    have hx0 : 2 ≤ x ∧ x ≤ 8 := by simp at hx; omega
    refine ⟨_, ex, ?_⟩
    clear ex hx
    refine to_ hΦ (next_wp hd (by omega) (by omega) fun b d b0 b1 hd => ?_)
    walk_at "w"
    walk_at "s"
    refine to_ hΦ (law_many_l (n := n) hb ?_)
    walk_at "w"
    refine ⟨mul_r (by omega), ?_⟩
    split
    · rename_i hlt
      walk_at "s"
      refine ⟨by omega, ?_⟩
      refine hn _ ⟨d, bs ++ [2 + b], _, _, hd, fun y hy => ?_, by simp; omega, fun y hy => ?_, ?_, rfl⟩
      · rcases List.mem_append.mp hy with z | z
        · exact hb y z
        · have : y = 2 + b := by simpa using z
          omega
      · rcases List.mem_append.mp hy with z | z
        · exact h9 y z
        · have : y = 2 + b := by simpa using z
          omega
      · rw [prodL_app]
        simpa [prodL] using hlt
    · exact hn _ ⟨d, bs, _, _, hd, hb, by omega, h9, hp, rfl⟩
  · rintro ρ' ⟨d, bs, o2, o3, hd, hb, hlen, h9, hp, rfl⟩
    walk_at "s"
    exact hr _ _ [d] rfl (q bs d hb (by omega) h9 hp hd)
/-! ### rows bent -/
def GoodR (bs : List Int) (N : Nat) (fs : List (List Int)) : Prop := fs.length = N ∧ ∀ r ∈ fs, r.length = bs.length
theorem cut_map {α β : Type} (f : α → β) (xs : List α) (lo hi : Option Int) : cutD (xs.map f) lo hi = (cutD xs lo hi).map f := by
  unfold cutD
  rw [List.length_map, List.map_take, List.map_drop]
theorem cut_mem {α : Type} {xs : List α} {lo hi : Option Int} {x : α} (h : x ∈ cutD xs lo hi) : x ∈ xs := List.mem_of_mem_drop (List.mem_of_mem_take h)
theorem cut_back {α : Type} {xs : List α} : cutD xs (some (-1)) none = xs.drop (xs.length - 1) := by
  have e2 : HT.sIx xs.length 0 (some (-1)) = xs.length - 1 := by unfold HT.sIx; simp only; split <;> omega
  unfold cutD
  rw [HT.sIx_none, e2, List.take_of_length_le (by simp)]
theorem cut_front {α : Type} {xs : List α} : cutD xs none (some (-1)) = xs.take (xs.length - 1) := by
  have e2 : HT.sIx xs.length xs.length (some (-1)) = xs.length - 1 := by unfold HT.sIx; simp only; split <;> omega
  unfold cutD
  rw [HT.sIx_none, e2, List.drop_zero, Nat.sub_zero]
theorem sort2 (a t : Int) : ∃ x y, [a, t].mergeSort (· ≤ ·) = [x, y] ∧ x ≤ y ∧ (x = a ∨ x = t) ∧ (y = a ∨ y = t) := by
  have hs := List.pairwise_mergeSort (le := fun a b : Int => decide (a ≤ b)) (fun a b c h1 h2 => by simp at *; omega) (fun a b => by simp; omega) [a, t]
  have hp := List.mergeSort_perm [a, t] (fun a b => decide (a ≤ b))
  generalize [a, t].mergeSort (fun a b => decide (a ≤ b)) = L at hs hp ⊢
  match L, hp.length_eq with
  | [x, y], _ =>
    have h1 := (hp.mem_iff (a := x)).mp (by simp)
    have h2 := (hp.mem_iff (a := y)).mp (by simp)
    exact ⟨x, y, rfl, by simpa using hs, by simpa using h1, by simpa using h2⟩
theorem shaped_rows (rs : List (List Int)) : SeqAt.shaped (.list (rs.map rowT)) = true := (shN_lst (k := 1) fun d h => by
  obtain ⟨r, _, rfl⟩ := List.mem_map.mp h
  exact shN_tup (k := 0) shN_ints).ok
theorem eqvAll_rows : ∀ (a b : List (List Int)), PyData.eqvAll (a.map rowT) (b.map rowT) = decide (a = b)
  | [], [] => by simp [PyData.eqvAll]
  | [], y :: b => by simp [PyData.eqvAll]
  | x :: a, [] => by simp [PyData.eqvAll]
  | x :: a, y :: b => by
    rw [List.map_cons, List.map_cons]
    simp only [PyData.eqvAll, eqvAll_rows a b]
    unfold rowT
    rw [eqv_tints]
    by_cases h : x = y <;> simp [h]
theorem eqv_rows (a b : List (List Int)) : PyData.eqv (.list (a.map rowT)) (.list (b.map rowT)) = decide (a = b) := by
  simp only [PyData.eqv]; exact eqvAll_rows a b
theorem eqv_rowsnil (a : List (List Int)) : PyData.eqv (.list (a.map rowT)) (.list []) = decide (a = []) := eqv_rows a []
theorem bent_wp {n : Nat} {d : D} {bs : List Int} {N : Nat} {rs : List (List Int)} {Q X} (hd : Pl d) (hb : goodB bs) (hl : bs.length ≤ 5) (h9 : ∀ b ∈ bs, b ≤ 9) (hN : N ≤ 200) (hrs : GoodR bs N rs)
    (q : ∀ (fs : List (List Int)) (d' : D), GoodR bs N fs → Pl d' → Q (ownL (.list (fs.map rowT))) [d']) : Phi T (n + 2) "_law_bent" [true, false, false] [pl d, sh (.tuple (intsD bs)), sh (.list (rs.map rowT))] Q X := by
  refine run3 pk__law_bent rfl rfl fun Φ hΦ kk hr _ _ => ?_
  unfold pd__law_bent d__law_bent
  have hz := sizeLine_big
  have hN' := hrs.1
  have f11 : ∀ (d : D) (fs : List (List Int)) (a t w : Int) (o7 o8 o9 o10 : Option Ety), Pl d → GoodR bs N fs → wpSs Φ u__law_bent_0_11 [some (pl d), some (sh (.tuple (intsD bs))), some (sh (.list (rs.map rowT))), some (ownL (.list (fs.map rowT))), some (sh (.int a)), some (sh (.int t)), some (sh (.int w)), o7, o8, o9, o10] kk := by
    intro d fs a t w o7 o8 o9 o10 hd hf
    walk_at "s"
    exact hr _ _ [d] rfl (q fs d hf hd)
  have f10 : ∀ (d : D) (fs : List (List Int)) (a t w : Int) (o7 o8 o9 o10 : Option Ety), 0 ≤ a → a < N → Pl d → GoodR bs N fs → wpSs Φ u__law_bent_0_10 [some (pl d), some (sh (.tuple (intsD bs))), some (sh (.list (rs.map rowT))), some (ownL (.list (fs.map rowT))), some (sh (.int a)), some (sh (.int t)), some (sh (.int w)), o7, o8, o9, o10] kk := by
    intro d fs a t w o7 o8 o9 o10 a0 a1 hd hf
    walk_at "s"
    split
    · walk_at "s"
      rw [cut_map, cut_map, cut_lo a0, cut_hi a0, ← List.map_append]
      refine ⟨by have := hf.1; simp; omega, ?_⟩
      refine f11 d _ a t w _ _ _ _ hd ⟨by have := hf.1; simp; omega, fun r h => ?_⟩
      rcases List.mem_append.mp h with z | z
      · exact hf.2 r (List.mem_of_mem_drop z)
      · exact hf.2 r (List.mem_of_mem_take z)
    · exact f11 d fs a t w _ _ _ _ hd hf
  have f9 : ∀ (d : D) (fs : List (List Int)) (a t w : Int) (o7 o8 o9 o10 : Option Ety), 0 ≤ a → a < N → Pl d → GoodR bs N fs → wpSs Φ u__law_bent_0_9 [some (pl d), some (sh (.tuple (intsD bs))), some (sh (.list (rs.map rowT))), some (ownL (.list (fs.map rowT))), some (sh (.int a)), some (sh (.int t)), some (sh (.int w)), o7, o8, o9, o10] kk := by
    intro d fs a t w o7 o8 o9 o10 a0 a1 hd hf
    walk_at "s"
    split
    · walk_at "s"
      refine ⟨by omega, ?_⟩
      refine wpComp_inv (fun i acc ρ' => ∃ (d : D) (l : List Int) (o10 : Option Ety), Pl d ∧ acc.reverse = intsD l ∧ l.length = i ∧ ρ' = [some (pl d), some (sh (.tuple (intsD bs))), some (sh (.list (rs.map rowT))), some (ownL (.list (fs.map rowT))), some (sh (.int a)), some (sh (.int t)), some (sh (.int w)), o7, o8, o9, o10]) ⟨d, [], _, hd, rfl, rfl, rfl⟩ ?_ ?_
      · rintro k e acc ρ' K2 he ⟨d, l, o10, hd, hacc, hlen, rfl⟩ hno hyes
        obtain ⟨b, hbk, rfl⟩ := ints_of he
        have hbb := hb b (List.mem_of_getElem? hbk)
        have hb9 := h9 b (List.mem_of_getElem? hbk)
        walk_at "w"
        refine to_ hΦ (next_wp hd (by omega) (by omega) fun v d v0 v1 hd => ?_)
        walk_at "w"
        exact hyes _ _ ⟨d, l ++ [v], _, hd, by rw [List.reverse_cons, hacc, ints_app1], by simp; omega, rfl⟩
      · rintro acc ρ' ⟨d, l, o10, hd, hacc, hlen, rfl⟩
        rw [hacc]
        walk_at "w"
        refine ⟨_, ixN_nat a0 (by have := hf.1; omega), ?_⟩
        have e : (fs.map rowT).set a.toNat (.tuple (intsD l)) = (fs.set a.toNat l).map rowT := by rw [List.map_set]; rfl
        rw [e]
        refine f10 d _ a t w _ _ _ _ a0 a1 hd ⟨by simp; exact hf.1, fun r h => ?_⟩
        rcases List.mem_or_eq_of_mem_set h with z | z
        · exact hf.2 r z
        · rw [z, hlen]; simp
    · exact f10 d fs a t w _ _ _ _ a0 a1 hd hf
  have f8 : ∀ (d : D) (fs : List (List Int)) (a t w : Int) (o7 o8 o9 o10 : Option Ety), 0 ≤ a → a < N → Pl d → GoodR bs N fs → wpSs Φ u__law_bent_0_8 [some (pl d), some (sh (.tuple (intsD bs))), some (sh (.list (rs.map rowT))), some (ownL (.list (fs.map rowT))), some (sh (.int a)), some (sh (.int t)), some (sh (.int w)), o7, o8, o9, o10] kk := by
    intro d fs a t w o7 o8 o9 o10 a0 a1 hd hf
    walk_at "s"
    split
    · walk_at "s"
      rw [cut_map, cut_map, cut_back, cut_front, ← List.map_append]
      refine ⟨by have := hf.1; simp; omega, ?_⟩
      refine f9 d _ a t w _ _ _ _ a0 a1 hd ⟨by have := hf.1; simp; omega, fun r h => ?_⟩
      rcases List.mem_append.mp h with z | z
      · exact hf.2 r (List.mem_of_mem_drop z)
      · exact hf.2 r (List.mem_of_mem_take z)
    · exact f9 d fs a t w _ _ _ _ a0 a1 hd hf
  have f7 : ∀ (d : D) (fs : List (List Int)) (a t w : Int) (o7 o8 o9 o10 : Option Ety), 0 ≤ a → a < N → 0 ≤ t → t < N → Pl d → GoodR bs N fs → wpSs Φ u__law_bent_0_7 [some (pl d), some (sh (.tuple (intsD bs))), some (sh (.list (rs.map rowT))), some (ownL (.list (fs.map rowT))), some (sh (.int a)), some (sh (.int t)), some (sh (.int w)), o7, o8, o9, o10] kk := by
    intro d fs a t w o7 o8 o9 o10 a0 a1 t0 t1 hd hf
    have ixa : ∀ {fs : List (List Int)}, GoodR bs N fs → ∀ {a : Int}, 0 ≤ a → a < N → L2.atI (fs.map rowT) a = some (.tuple (intsD (fs.getD a.toNat []))) := fun hf a a0 a1 => atI_nat a0 (rows_at (by have := hf.1; omega))
    have lna : ∀ {fs : List (List Int)}, GoodR bs N fs → ∀ {a : Int}, 0 ≤ a → a < N → (fs.getD a.toNat []).length = bs.length := fun hf a a0 a1 => hf.2 _ (by rw [List.getD_eq_getElem?_getD, List.getElem?_eq_getElem (by have := hf.1; omega)]; exact List.getElem_mem _)
    walk_at "s"
    split
    · walk_at "w"
      split
      · exact f8 d fs a t w _ _ _ _ a0 a1 hd hf
      rename_i hne
      have hlp := List.length_pos_iff.mpr hne
      obtain ⟨fa, ea, la⟩ : ∃ fa, L2.atI (fs.map rowT) a = some (.tuple (intsD fa)) ∧ fa.length = bs.length := ⟨_, ixa hf a0 a1, lna hf a0 a1⟩
      obtain ⟨ft, et, lt⟩ : ∃ fa, L2.atI (fs.map rowT) t = some (.tuple (intsD fa)) ∧ fa.length = bs.length := ⟨_, ixa hf t0 t1, lna hf t0 t1⟩
      refine ⟨_, ea, ?_⟩
      walk_at "w"
      rw [if_pos (by omega)]
      refine ⟨_, et, ?_⟩
      walk_at "w"
      rw [if_pos (by omega)]
      walk_at "s"
      refine to_ hΦ (next_wp hd (by omega) (by omega) fun v d v0 v1 hd => ?_)
      walk_at "w"
      have bump : ∀ {fs : List (List Int)} {fa : List Int} {a c : Int}, GoodR bs N fs → fa.length = bs.length → GoodR bs N (fs.set a.toNat (fa.take v.toNat ++ ([c] ++ fa.drop (v.toNat + 1)))) := fun {fs fa a c} hf h1 => by
        refine ⟨by simp; exact hf.1, fun r h => ?_⟩
        rcases List.mem_or_eq_of_mem_set h with z | z
        · exact hf.2 r z
        · rw [z]
          simp; omega
      have c1 : ∀ {fa : List Int}, cutD (intsD fa) none (some v) = intsD (fa.take v.toNat) := fun {fa} => by rw [cut_hi v0, ints_take]
      have c2 : ∀ {fa : List Int}, cutD (intsD fa) (some (v + 1)) none = intsD (fa.drop (v.toNat + 1)) := fun {fa} => by rw [cut_lo (by omega), ints_drop, show (v + 1).toNat = v.toNat + 1 by omega]
      walk_at "s"
      refine ⟨_, ea, ?_⟩
      walk_at "w"
      rw [c1]
      refine ⟨_, ea, ?_⟩
      walk_at "w"
      refine ⟨_, ix_gDi v0 (by omega), ?_⟩
      walk_at "w"
      refine ⟨by omega, by omega, _, ea, ?_⟩
      walk_at "w"
      rw [c2]
      have hfl := hf.1
      refine ⟨by simp; omega, _, ixN_nat a0 (by omega), ?_⟩
      have e1 : ∀ {fs : List (List Int)} {fa : List Int} {a : Int} {c : Int}, (fs.map rowT).set a.toNat (.tuple (intsD (fa.take v.toNat) ++ (.int c :: intsD (fa.drop (v.toNat + 1))))) = (fs.set a.toNat (fa.take v.toNat ++ ([c] ++ fa.drop (v.toNat + 1)))).map rowT := fun {fs fa a c} => by
        rw [List.map_set]
        unfold rowT
        rw [ints_app]; rfl
      rw [e1]
      have hf2 := bump (a := a) (c := gD fa v.toNat + 1) hf la
      generalize fs.set a.toNat _ = f2 at hf2 ⊢
      obtain ⟨ft, et, lt⟩ : ∃ fa, L2.atI (f2.map rowT) t = some (.tuple (intsD fa)) ∧ fa.length = bs.length := ⟨_, ixa hf2 t0 t1, lna hf2 t0 t1⟩
      walk_at "s"
      refine ⟨_, et, ?_⟩
      walk_at "w"
      rw [c1]
      refine ⟨_, et, ?_⟩
      walk_at "w"
      refine ⟨_, ix_gDi v0 (by omega), ?_⟩
      walk_at "w"
      refine ⟨by omega, by omega, _, et, ?_⟩
      walk_at "w"
      rw [c2]
      have hfl2 := hf2.1
      refine ⟨by simp; omega, _, ixN_nat t0 (by omega), ?_⟩
      rw [e1]
      exact f8 d _ a t w _ _ _ _ a0 a1 hd (bump hf2 lt)
    · exact f8 d fs a t w _ _ _ _ a0 a1 hd hf
  have f6 : ∀ (d : D) (fs : List (List Int)) (a t w : Int) (o7 o8 o9 o10 : Option Ety), 0 ≤ a → a < N → 0 ≤ t → t < N → Pl d → GoodR bs N fs → wpSs Φ u__law_bent_0_6 [some (pl d), some (sh (.tuple (intsD bs))), some (sh (.list (rs.map rowT))), some (ownL (.list (fs.map rowT))), some (sh (.int a)), some (sh (.int t)), some (sh (.int w)), o7, o8, o9, o10] kk := by
    intro d fs a t w o7 o8 o9 o10 a0 a1 t0 t1 hd hf
    walk_at "s"
    split
    · walk_at "s"
      refine ⟨by omega, ?_⟩
      walk_at "w"
      show pSorted [ownL (.list (intsD [a, t]))] _
      obtain ⟨x, y, e, xy, hx, hy⟩ := sort2 a t
      rw [pSorted_l, e]
      walk_at "w"
      walk_at "s"
      have x0 : 0 ≤ x ∧ x < N := by omega
      have y0 : 0 ≤ y ∧ y < N := by omega
      have hfl := hf.1
      rw [cut_map, cut_both x0.1 (by omega)]
      refine ⟨by omega, by omega, by omega, by simp; omega, ?_⟩
      have e1 : List.take x.toNat (fs.map rowT) ++ ((((fs.drop x.toNat).take ((y + 1).toNat - x.toNat)).map rowT).reverse ++ List.drop (y + 1).toNat (fs.map rowT)) = (fs.take x.toNat ++ (((fs.drop x.toNat).take ((y + 1).toNat - x.toNat)).reverse ++ fs.drop (y + 1).toNat)).map rowT := by
        simp only [List.map_append, List.map_reverse, List.map_take, List.map_drop]
      rw [e1]
      refine f7 d _ a t w _ _ _ _ a0 a1 t0 t1 hd ⟨by simp; omega, fun r h => ?_⟩
      rcases List.mem_append.mp h with z | z
      · exact hf.2 r (List.mem_of_mem_take z)
      · rcases List.mem_append.mp z with z | z
        · exact hf.2 r (List.mem_of_mem_drop (List.mem_of_mem_take (List.mem_reverse.mp z)))
        · exact hf.2 r (List.mem_of_mem_drop z)
    · exact f7 d fs a t w _ _ _ _ a0 a1 t0 t1 hd hf
  have f5 : ∀ (d : D) (fs : List (List Int)) (a t w : Int) (o7 o8 o9 o10 : Option Ety), 0 ≤ a → a < N → 0 ≤ t → t < N → Pl d → GoodR bs N fs → wpSs Φ u__law_bent_0_5 [some (pl d), some (sh (.tuple (intsD bs))), some (sh (.list (rs.map rowT))), some (ownL (.list (fs.map rowT))), some (sh (.int a)), some (sh (.int t)), some (sh (.int w)), o7, o8, o9, o10] kk := by
    intro d fs a t w o7 o8 o9 o10 a0 a1 t0 t1 hd hf
    walk_at "s"
    split
    · walk_at "s"
      have la : a.toNat < fs.length := by have := hf.1; omega
      have lt : t.toNat < fs.length := by have := hf.1; omega
      refine ⟨_, ixN_nat a0 (by omega), _, ixN_nat t0 (by omega), _, ⟨_, List.getElem?_eq_getElem la, rfl⟩, _, ⟨_, List.getElem?_eq_getElem lt, rfl⟩, ?_⟩
      have e : ((fs.map rowT).set a.toNat (rowT fs[t.toNat])).set t.toNat (rowT fs[a.toNat]) = ((fs.set a.toNat fs[t.toNat]).set t.toNat fs[a.toNat]).map rowT := by rw [List.map_set, List.map_set]
      rw [e]
      refine f6 d _ a t w _ _ _ _ a0 a1 t0 t1 hd ⟨by simp; exact hf.1, fun r h => ?_⟩
      rcases List.mem_or_eq_of_mem_set h with z | z
      · rcases List.mem_or_eq_of_mem_set z with z | z
        · exact hf.2 r z
        · rw [z]; exact hf.2 _ (List.getElem_mem _)
      · rw [z]; exact hf.2 _ (List.getElem_mem _)
    · exact f6 d fs a t w _ _ _ _ a0 a1 t0 t1 hd hf
  have f4 : ∀ (d : D) (fs : List (List Int)) (a t w : Int) (o7 o8 o9 o10 : Option Ety), 0 ≤ a → a < N → 0 ≤ t → t < N → Pl d → GoodR bs N fs → wpSs Φ u__law_bent_0_4 [some (pl d), some (sh (.tuple (intsD bs))), some (sh (.list (rs.map rowT))), some (ownL (.list (fs.map rowT))), some (sh (.int a)), some (sh (.int t)), some (sh (.int w)), o7, o8, o9, o10] kk := by
    intro d fs a t w o7 o8 o9 o10 a0 a1 t0 t1 hd hf
    walk_at "s"
    split
    · walk_at "s"
      have la : a.toNat < fs.length := by have := hf.1; omega
      refine ⟨a0, ⟨_, _, List.getElem?_eq_getElem la, rfl⟩, by omega, ?_⟩
      have e0 : (fs.map rowT).eraseIdx a.toNat = (fs.eraseIdx a.toNat).map rowT := by rw [List.eraseIdx_eq_take_drop_succ, List.eraseIdx_eq_take_drop_succ, List.map_append, List.map_take, List.map_drop]
      have le := List.length_eraseIdx_of_lt la
      rw [e0]
      have hg : ∀ r ∈ fs.eraseIdx a.toNat, r.length = bs.length := fun r h => hf.2 r (List.mem_of_mem_eraseIdx h)
      have hfl := hf.1
      generalize fs.eraseIdx a.toNat = gs at le hg ⊢
      walk_at "s"
      refine to_ hΦ (next_wp hd (by omega) (by omega) fun v d v0 v1 hd => ?_)
      walk_at "w"
      refine ⟨_, atI_nat v0 (rows_at (by omega)), t0, by omega, by omega, ?_⟩
      have hrm : (rs.getD v.toNat []).length = bs.length := hrs.2 _ (by rw [List.getD_eq_getElem?_getD, List.getElem?_eq_getElem (show v.toNat < rs.length by omega)]; exact List.getElem_mem _)
      generalize rs.getD v.toNat [] = r0 at hrm ⊢
      have e1 : List.take t.toNat (gs.map rowT) ++ rowT r0 :: List.drop t.toNat (gs.map rowT) = (gs.take t.toNat ++ r0 :: gs.drop t.toNat).map rowT := by rw [List.map_append, List.map_cons, List.map_take, List.map_drop]
      rw [e1]
      refine f5 d _ a t w _ _ _ _ a0 a1 t0 t1 hd ⟨by simp; omega, fun r h => ?_⟩
      rcases List.mem_append.mp h with z | z
      · exact hg r (List.mem_of_mem_take z)
      · rcases List.mem_cons.mp z with z | z
        · rw [z]; exact hrm
        · exact hg r (List.mem_of_mem_drop z)
    · exact f5 d fs a t w _ _ _ _ a0 a1 t0 t1 hd hf
  have hsh := shaped_rows rs
  walk_at "s"
  walk_at "s"
  refine ⟨hsh, ?_⟩
  rw [eqv_rowsnil]
  walk_at "w"
  split
  · walk_at "s"
    exact hr _ _ [d] rfl (q rs d hrs hd)
  · rename_i hne
    have hlp := List.length_pos_iff.mpr hne
    walk_at "s"
    refine to_ hΦ (next_wp hd (by omega) (by omega) fun a d a0 a1 hd => ?_)
    walk_at "w"
    refine to_ hΦ (next_wp hd (by omega) (by omega) fun t d t0 t1 hd => ?_)
    walk_at "w"
    walk_at "s"
    refine to_ hΦ (next_wp hd (by omega) (by omega) fun w d w0 w1 hd => ?_)
    walk_at "w"
    exact f4 d rs a t w _ _ _ _ a0 (by omega) t0 (by omega) hd hrs
end MS
local macro_rules | `(tactic| walk_at "s") => `(tactic| (refine MS.ss ?_; try simp -implicitDefEqProofs))
local macro_rules | `(tactic| walk_at "w") => `(tactic| (try simp -implicitDefEqProofs))
local macro_rules | `(tactic| walk_at "a") => `(tactic| (repeat (refine And.intro (by omega) ?_)))
namespace MS
open PySem
def rowsT (fs : List (List Int)) : D := .list (fs.map rowT)
theorem bb_shaped (a b : Bool) : SeqAt.shaped (.tuple [.bool a, .bool b]) = true := (shN_tup (k := 0) fun d h => by
  simp only [List.mem_cons, List.not_mem_nil, or_false] at h
  rcases h with rfl | rfl <;> exact shN_bool).ok
theorem bb_eqv (a b : Bool) : PyData.eqv (.tuple [.bool a, .bool b]) (.tuple [.bool a, .bool b]) = true := by
  cases a <;> cases b <;> simp [PyData.eqv, PyData.eqvAll]
theorem sem : LawSem T 20 63 pd_law.nm := by
  intro ns hl
  show Phi T (19 + 1) "law" _ _ _ _
  refine run3 pk_law rfl rfl fun Φ hΦ kk hr _ _ => ?_
  unfold pd_law d_law
  have hz := sizeLine_big
  walk_at "s"
  refine to_ hΦ (pile_wp (n := 18) hl fun d hd => ?_)
  walk_at "w"
  walk_at "s"
  refine for_rg (fun i ρ' => ∃ d o2 o3 o4 o5 o6 o7 o8 o9 o10 o11 o12 o13 o14, Pl d ∧ ρ' = [some ⟨.raw, .list (intsD ns)⟩, some (pl d), o2, o3, o4, o5, o6, o7, o8, o9, o10, o11, o12, o13, o14]) ⟨d, _, _, _, _, _, _, _, _, _, _, _, _, _, hd, rfl⟩ ?_ ?_
  · rintro i ρ' K hi ⟨d, o2, o3, o4, o5, o6, o7, o8, o9, o10, o11, o12, o13, o14, hd, rfl⟩ hn _ _ _
    walk_at "w"
    walk_at "s"
    refine to_ hΦ (bases_wp (n := 17) hd fun bs d hb hlb h9 hp hd => ?_)
    walk_at "w"
    have hb1 : ∀ b ∈ bs, 0 < b := fun b z => by have := hb b z; omega
    have pp := prodL_pos hb1
    walk_at "s"
    refine to_ hΦ (law_many_wp (n := 18) hb ?_)
    walk_at "w"
    walk_at "a"
    refine comp_ints (fun ρ' => ∃ d o5, Pl d ∧ ρ' = [some ⟨.raw, .list (intsD ns)⟩, some (pl d), some (sh (.int i)), some (sh (.tuple (intsD bs))), o4, o5, o6, o7, o8, o9, o10, o11, o12, o13, o14]) (fun x => rowT (grow bs x)) ⟨d, _, hd, rfl⟩ ?_ ?_
    · rintro x ρ' K2 hx ⟨d, o5, hd, rfl⟩ k1
      walk_at "w"
      refine to_ hΦ (law_row_wp (n := 18) hb (by omega) (by omega) ?_)
      walk_at "w"
      exact k1 _ _ rfl ⟨_, _, hd, rfl⟩
    rintro ρ' ⟨d, o5, hd, rfl⟩
    walk_at "w"
    have eR : (rgL 0 (prodL bs)).map (fun x => rowT (grow bs x)) = ((rgL 0 (prodL bs)).map (grow bs)).map rowT := by rw [List.map_map]; rfl
    rw [eR]
    obtain ⟨N, eN⟩ : ∃ N, N = (prodL bs).toNat := ⟨_, rfl⟩
    have hN : 1 ≤ N ∧ N ≤ 200 := by omega
    have g0 : GoodR bs N ((rgL 0 (prodL bs)).map (grow bs)) := ⟨by simp; omega, fun r h => by
      obtain ⟨x, _, rfl⟩ := List.mem_map.mp h
      exact grow_len bs x⟩
    generalize (rgL 0 (prodL bs)).map (grow bs) = r0 at g0 ⊢
    clear eR
    have g0l := g0.1
    walk_at "s"
    refine ⟨by omega, ?_⟩
    refine to_ hΦ (next_wp hd (by decide) (by decide) fun v d v0 v1 hd => ?_)
    walk_at "w"
    have pick : ∃ rs, GoodR bs N rs ∧ L2.atI [PyData.list (r0.map rowT), PyData.list (r0.map rowT).reverse] v = some (rowsT rs) := by
      have : v = 0 ∨ v = 1 := by omega
      rcases this with rfl | rfl
      · exact ⟨r0, g0, rfl⟩
      · refine ⟨r0.reverse, ⟨by simp; exact g0.1, fun r h => g0.2 r (List.mem_reverse.mp h)⟩, ?_⟩
        rw [← List.map_reverse]; rfl
    obtain ⟨rs, grs, ers⟩ := pick
    refine ⟨_, ers, ?_⟩
    clear ers
    unfold rowsT
    have grl := grs.1
    walk_at "s"
    rw [cut_map, cut_map, cut_lo (by decide), cut_hi (by decide), ← List.map_append]
    refine ⟨by simp; omega, by omega, ?_⟩
    have main : ∀ (d : D) (L : List (List (List Int))) (o7 o8 o9 : Option Ety), Pl d → (∀ fs ∈ L, GoodR bs N fs) → wpSs Φ u_law_1_5 [some ⟨.raw, .list (intsD ns)⟩, some (pl d), some (sh (.int i)), some (sh (.tuple (intsD bs))), some (sh (.list (rs.map rowT))), none, some (ownL (.list (L.map rowsT))), o7, o8, o9, o10, o11, o12, o13, o14] K := by
      intro d L o7 o8 o9 hd hL
      walk_at "s"
      refine for_mem (fun ρ' => ∃ o7 o10 o11 o12 o13 o14, ρ' = [some ⟨.raw, .list (intsD ns)⟩, some (pl d), some (sh (.int i)), some (sh (.tuple (intsD bs))), some (sh (.list (rs.map rowT))), none, some (sh (.list (L.map rowsT))), o7, o8, o9, o10, o11, o12, o13, o14]) ⟨_, _, _, _, _, _, rfl⟩ ?_ ?_
      · rintro e ρ' K2 he ⟨o7, o10, o11, o12, o13, o14, rfl⟩ k1 k2 k3 k4
        obtain ⟨fs, hfm, rfl⟩ := List.mem_map.mp he
        have hf := hL fs hfm
        have hfl := hf.1
        have hsh := shaped_rows fs
        have hfe := eqv_rows fs fs
        rw [decide_eq_true rfl] at hfe
        have hf5 : ∀ r ∈ fs, r.length ≤ 1000 := fun r h => by rw [hf.2 r h]; omega
        unfold rowsT
        walk_at "w"
        walk_at "s"
        refine to_ hΦ (due_wp (n := 17) hb (by omega) (by omega) hf5 ?_)
        generalize hb2 : (shownB bs fs && closesB fs) = b2
        generalize hb1 : shownB bs fs = b1
        have bs1 := bb_shaped b1 b2
        have bs2 := bb_eqv b1 b2
        walk_at "w"
        walk_at "s"
        walk_at "s"
        unfold rowsT at *
        refine for_rg (fun j ρ' => ∃ p o7 o13 o14, (p = .own .sh ∨ p = .sh) ∧ ρ' = [some ⟨.raw, .list (intsD ns)⟩, some (pl d), some (sh (.int i)), some (sh (.tuple (intsD bs))), some (sh (.list (rs.map rowT))), none, some (sh (.list (L.map fun fs => .list (fs.map rowT)))), o7, o8, o9, some (sh (.list (fs.map rowT))), some (sh (.tuple [.bool b1, .bool b2])), some ⟨p, .list (fs.map rowT)⟩, o13, o14]) ⟨_, _, _, _, .inl rfl, rfl⟩ ?_ ?_
        · rintro j ρ' K3 hj ⟨p, o7, o13, o14, hp, rfl⟩ m1 m2 m3 m4
          have cl : p.clean = true ∧ p.fz = .sh := by rcases hp with rfl | rfl <;> exact ⟨rfl, rfl⟩
          walk_at "w"
          walk_at "s"
          rw [cl.2]
          refine ⟨cl.1, to_ hΦ (round_shown_wp (n := 17) hb (by omega) (by omega) hf5 ?_)⟩
          rw [hb2, hb1]
          walk_at "w"
          walk_at "s"
          rw [if_pos bs2, if_pos hfe]
          refine ⟨bs1, hsh, ?_⟩
          walk_at "s"
          simp -implicitDefEqProofs [wpComp]
          exact ⟨by omega, m1 _ ⟨_, _, _, _, .inr rfl, rfl⟩⟩
        · rintro ρ' ⟨p, o7, o13, o14, hp, rfl⟩
          exact k1 _ ⟨_, _, _, _, _, _, rfl⟩
      · rintro ρ' ⟨o7, o10, o11, o12, o13, o14, rfl⟩
        exact hn _ ⟨_, _, _, _, _, _, _, _, _, _, _, _, _, _, hd, rfl⟩
    have g1 : GoodR bs N (rs.drop 1 ++ rs.take 1) := ⟨by simp; omega, fun r h => by
      rcases List.mem_append.mp h with z | z
      · exact grs.2 r (List.mem_of_mem_drop z)
      · exact grs.2 r (List.mem_of_mem_take z)⟩
    show wpSs Φ u_law_1_4 [some ⟨.raw, .list (intsD ns)⟩, some (pl d), some (sh (.int i)), some (sh (.tuple (intsD bs))), some (sh (.list (rs.map rowT))), none, some (ownL (.list (([rs, rs.drop 1 ++ rs.take 1] : List (List (List Int))).map rowsT))), o7, o8, o9, o10, o11, o12, o13, o14] K
    have gL : ∀ fs ∈ ([rs, rs.drop 1 ++ rs.take 1] : List (List (List Int))), GoodR bs N fs := fun fs h => by
      simp only [List.mem_cons, List.not_mem_nil, or_false] at h
      rcases h with rfl | rfl
      · exact grs
      · exact g1
    have lL : ([rs, rs.drop 1 ++ rs.take 1] : List (List (List Int))).length ≤ 2 + 0 := Nat.le_refl _
    generalize ([rs, rs.drop 1 ++ rs.take 1] : List (List (List Int))) = L at gL lL ⊢
    walk_at "s"
    refine for_rg (fun j ρ' => ∃ d L o7 o8 o9, Pl d ∧ (∀ fs ∈ L, GoodR bs N fs) ∧ L.length ≤ 2 + j ∧ ρ' = [some ⟨.raw, .list (intsD ns)⟩, some (pl d), some (sh (.int i)), some (sh (.tuple (intsD bs))), some (sh (.list (rs.map rowT))), none, some (ownL (.list (L.map rowsT))), o7, o8, o9, o10, o11, o12, o13, o14]) ⟨d, L, _, _, _, hd, gL, lL, rfl⟩ ?_ ?_
    · rintro j ρ' K2 hj ⟨d, L, o7, o8, o9, hd, gL, lL, rfl⟩ k1 _ _ _
      walk_at "w"
      walk_at "s"
      refine to_ hΦ (bent_wp (n := 17) hd hb hlb h9 hN.2 grs fun fs d hf hd => ?_)
      walk_at "w"
      walk_at "s"
      refine to_ hΦ (next_wp hd (by decide) (by decide) fun v d v0 v1 hd => ?_)
      walk_at "w"
      walk_at "a"
      refine for_rg (fun k ρ' => ∃ d fs o9, Pl d ∧ GoodR bs N fs ∧ ρ' = [some ⟨.raw, .list (intsD ns)⟩, some (pl d), some (sh (.int i)), some (sh (.tuple (intsD bs))), some (sh (.list (rs.map rowT))), none, some (ownL (.list (L.map rowsT))), some (sh (.int j)), some (ownL (.list (fs.map rowT))), o9, o10, o11, o12, o13, o14]) ⟨d, fs, _, hd, hf, rfl⟩ ?_ ?_
      · rintro k ρ' K3 hk ⟨d, fs, o9, hd, hf, rfl⟩ m1 _ _ _
        walk_at "w"
        walk_at "s"
        refine to_ hΦ (bent_wp (n := 17) hd hb hlb h9 hN.2 hf fun fs d hf hd => ?_)
        walk_at "w"
        exact m1 _ ⟨_, _, _, hd, hf, rfl⟩
      · rintro ρ' ⟨d, fs, o9, hd, hf, rfl⟩
        walk_at "s"
        refine ⟨by omega, ?_⟩
        have e : L.map rowsT ++ [.list (fs.map rowT)] = (L ++ [fs]).map rowsT := by rw [List.map_append]; rfl
        rw [e]
        refine k1 _ ⟨d, L ++ [fs], _, _, _, hd, fun gs h => ?_, by simp; omega, rfl⟩
        rcases List.mem_append.mp h with z | z
        · exact gL gs z
        · have : gs = fs := by simpa using z
          rw [this]; exact hf
    · rintro ρ' ⟨d, L, o7, o8, o9, hd, gL, lL, rfl⟩
      exact main d L _ _ _ hd gL
  · rintro ρ' ⟨d, o2, o3, o4, o5, o6, o7, o8, o9, o10, o11, o12, o13, o14, hd, rfl⟩
    walk_at "s"
    exact hr _ _ [] rfl rfl
end MS
open PySem PySem.W PyProof.Rows in
set_option maxRecDepth 100000 in
set_option maxHeartbeats 0 in
theorem PySem.Challenge.cw_mixedscales_k54_rounds_spoilt_twice_holds : PySem.Challenge.rw_mixedscales_k54_rounds_spoilt_twice.Holds := by
  w_on; o_law; k_head; (case hw => w_witness2)
  k_fill
  refine MS.walk_end (l := PySem.Challenge.rw_mixedscales_k54_rounds_spoilt_twice) (T := MS.T) (cs := MS.CLS) (pl := MS.pd_law) (most := 63) (k := 20) (x := "script") rfl (by decide) rfl ⟨rfl, by decide, by decide⟩ MS.okTT MS.okNN (by simp [MS.T]) rfl rfl rfl MS.sem (fun w h Y => PySem.W.kIn_of Y) ?F
  case F =>
    intro w mg h KX G
    refine ⟨?kB, ?kE, ?kN, ?kD⟩
    case kB =>
      refine' MS.blts_mk KX G ?b1 ?b2 ?b3 ?b4 ?b5 ?b6 ?b7 ?b8 ?b9 ?b10 ?b11 ?b12 ?b13 ?b14 ?b15 ?b16 ?b17 ?b18 ?b19 ?b20
      (case b1 => k_is)
      (case b2 => k_is)
      (case b3 => k_is)
      (case b4 => k_is)
      (case b5 => k_is)
      (case b6 => k_is)
      (case b7 => k_is)
      (case b8 => k_is)
      (case b9 => k_is)
      (case b10 => k_is)
      (case b11 => k_is)
      (case b12 => k_is)
      (case b13 => k_is)
      (case b14 => k_is)
      (case b15 => k_is)
      (case b16 => k_is)
      (case b17 => k_is)
      (case b18 => k_is)
      (case b19 => k_is)
      (case b20 => k_is)
    case kE =>
      refine' MS.excs KX G ?n_ScaleError ?n_NoPlace ?n_TooGreat ?n_TooSmall ?n_NoOrder ?n_NoEnd ?n_NoAsk ?n_NoDigit ?sp ?tk
      (case n_ScaleError => k_is)
      (case n_NoPlace => k_is)
      (case n_TooGreat => k_is)
      (case n_TooSmall => k_is)
      (case n_NoOrder => k_is)
      (case n_NoEnd => k_is)
      (case n_NoAsk => k_is)
      (case n_NoDigit => k_is)
      (case sp => k_is)
      (case tk => k_is)
    case kN =>
      intro z; exact absurd z (by decide)
    case kD =>
      intro p hp
      simp only [MS.T, List.mem_cons, List.not_mem_nil, or_false] at hp
      rcases hp with rfl | rfl | rfl | rfl | rfl | rfl | rfl | rfl | rfl | rfl | rfl | rfl
      · refine' MS.there_mk KX G MS.b_rows_many ?a ?l ?c ?k
        (case a => k_is)
        (case l => k_is)
        (case c => k_is)
        (case k => k_is)
      · refine' MS.there_mk KX G MS.b_is_next ?a ?l ?c ?k
        (case a => k_is)
        (case l => k_is)
        (case c => k_is)
        (case k => k_is)
      · refine' MS.there_mk KX G MS.b_round_shown ?a ?l ?c ?k
        (case a => k_is)
        (case l => k_is)
        (case c => k_is)
        (case k => k_is)
      · refine' MS.there_mk KX G MS.b__law_pile ?a ?l ?c ?k
        (case a => k_is)
        (case l => k_is)
        (case c => k_is)
        (case k => k_is)
      · refine' MS.there_mk KX G MS.b__law_next ?a ?l ?c ?k
        (case a => k_is)
        (case l => k_is)
        (case c => k_is)
        (case k => k_is)
      · refine' MS.there_mk KX G MS.b__law_many ?a ?l ?c ?k
        (case a => k_is)
        (case l => k_is)
        (case c => k_is)
        (case k => k_is)
      · refine' MS.there_mk KX G MS.b__law_row ?a ?l ?c ?k
        (case a => k_is)
        (case l => k_is)
        (case c => k_is)
        (case k => k_is)
      · refine' MS.there_mk KX G MS.b__law_bases ?a ?l ?c ?k
        (case a => k_is)
        (case l => k_is)
        (case c => k_is)
        (case k => k_is)
      · refine' MS.there_mk KX G MS.b__law_beside ?a ?l ?c ?k
        (case a => k_is)
        (case l => k_is)
        (case c => k_is)
        (case k => k_is)
      · refine' MS.there_mk KX G MS.b__law_due ?a ?l ?c ?k
        (case a => k_is)
        (case l => k_is)
        (case c => k_is)
        (case k => k_is)
      · refine' MS.there_mk KX G MS.b__law_bent ?a ?l ?c ?k
        (case a => k_is)
        (case l => k_is)
        (case c => k_is)
        (case k => k_is)
      · refine' MS.there_mk KX G MS.b_law ?a ?l ?c ?k
        (case a => k_is)
        (case l => k_is)
        (case c => k_is)
        (case k => k_is)
