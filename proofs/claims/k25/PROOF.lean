import PyProof.Rows.All
import Wide.All
import OpenK.AllK
import Wide.FinOn
import HandS.ForMost
import HandS.StrMore
import HandS.Wide
import HandS.WideBits
import HandS.Deep
import HandS.Style
import HandS.TupAny
import HandS.IsInst
import HandS.CallSlots
import HandS.Exc
import HandS.WordsExc
import HandS.Defaults
import HandS.Star
import HandS.FStr
import HandS.HeadHook2
import HandS.HeadHook4
import HandS.ClsMeth
import HandS.OwnEq
import HandS.Zip
import HandS.RaiseMore
import PyProof.StrOps2
import KE.KCallOwn
import KE.GoesMore
import KE.GoesZip
import KE.GoesEnum
import PyProof.ReprRoads
import HandS.Strs
import HandS.SetFor
import HandS.HeadNt
import HandS.HeadEnd
import HandS.Head0
import HandS.Head1
import HandS.Head2
import KE.KStateDown
import HandS.Text
import PySem.Challenge.RW_wholeshares_k25_unkind_by_looking
set_option Elab.async false
set_option linter.all false
set_option maxRecDepth 100000
set_option maxHeartbeats 4000000
/-! Ev0: a small language, its values, its store, its evaluator. -/
namespace Zv
open PySem
abbrev Key := L2.Key

inductive W where
  | non | bl (b : Bool) | int (i : Int) | str (x : Str) | tup (xs : List W) | fzl (xs : List W) | vl (xs : List W) | obj (C : Str) (ns : List Str) (xs : List W) | ref (i : Nat) | glo (x : Str) | bty (n : String)
  deriving Inhabited

mutual
def W.beq : W → W → Bool
  | .non, .non => true
  | .bl a, .bl b => a == b
  | .int a, .int b => a == b
  | .str a, .str b => decide (a = b)
  | .tup xs, .tup ys => W.beqs xs ys
  | .fzl xs, .fzl ys => W.beqs xs ys
  | .vl xs, .vl ys => W.beqs xs ys
  | .obj C ns xs, .obj D ms ys => decide (C = D) && (decide (ns = ms) && W.beqs xs ys)
  | .ref i, .ref j => i == j
  | .glo x, .glo y => decide (x = y)
  | .bty x, .bty y => x == y
  | _, _ => false
def W.beqs : List W → List W → Bool
  | [], [] => true
  | x :: xs, y :: ys => W.beq x y && W.beqs xs ys
  | _, _ => false
end
mutual
theorem W.beq_eq : ∀ {a b : W}, W.beq a b = true → a = b
  | .non, b, h => by cases b <;> first | rfl | (simp [W.beq] at h)
  | .bl a, b, h => by cases b <;> simp [W.beq] at h <;> simp [h]
  | .int a, b, h => by cases b <;> simp [W.beq] at h <;> simp [h]
  | .str a, b, h => by cases b <;> simp [W.beq] at h <;> simp [h]
  | .tup xs, b, h => by
    cases b <;> simp [W.beq] at h
    rw [W.beqs_eq h]
  | .fzl xs, b, h => by
    cases b <;> simp [W.beq] at h
    rw [W.beqs_eq h]
  | .vl xs, b, h => by
    cases b <;> simp [W.beq] at h
    rw [W.beqs_eq h]
  | .obj C ns xs, b, h => by
    cases b <;> simp [W.beq] at h
    rw [W.beqs_eq h.2.2, h.1, h.2.1]
  | .ref a, b, h => by cases b <;> simp [W.beq] at h <;> simp [h]
  | .glo a, b, h => by cases b <;> simp [W.beq] at h <;> simp [h]
  | .bty a, b, h => by cases b <;> simp [W.beq] at h <;> simp [h]
theorem W.beqs_eq : ∀ {xs ys : List W}, W.beqs xs ys = true → xs = ys
  | [], ys, h => by cases ys <;> first | rfl | (simp [W.beqs] at h)
  | x :: xs, ys, h => by
    cases ys with
    | nil => simp [W.beqs] at h
    | cons y ys =>
      simp [W.beqs] at h
      rw [W.beq_eq h.1, W.beqs_eq h.2]
end
mutual
theorem W.beq_refl : ∀ (a : W), W.beq a a = true
  | .non => rfl
  | .bl a => by simp [W.beq]
  | .int a => by simp [W.beq]
  | .str a => by simp [W.beq]
  | .tup xs => by simp [W.beq, W.beqs_refl xs]
  | .fzl xs => by simp [W.beq, W.beqs_refl xs]
  | .vl xs => by simp [W.beq, W.beqs_refl xs]
  | .obj C ns xs => by simp [W.beq, W.beqs_refl xs]
  | .ref a => by simp [W.beq]
  | .glo a => by simp [W.beq]
  | .bty a => by simp [W.beq]
theorem W.beqs_refl : ∀ (xs : List W), W.beqs xs xs = true
  | [] => rfl
  | x :: xs => by simp [W.beqs, W.beq_refl x, W.beqs_refl xs]
end

inductive Ob where
  | lst (xs : List W) | ins (C : Str) (fs : List (Str × W)) | dK (kvs : List (Key × W)) | dT (kvs : List (List Key × W))

abbrev Sto := List Ob

structure Exn where
  cls : Str
  fs : List (Str × W)

inductive R (α : Type) where
  | ok (a : α) (st : Sto) | err (x : Exn) (st : Sto) | stuck

def R.bind {α β : Type} : R α → (α → Sto → R β) → R β
  | .ok a st, f => f a st
  | .err x st, _ => .err x st
  | .stuck, _ => .stuck

/-! ### reading lists -/
def items (st : Sto) : W → Option (List W)
  | .tup xs => some xs
  | .fzl xs => some xs
  | .vl xs => some xs
  | .ref i => match st[i]? with
    | some (.lst xs) => some xs
    | _ => none
  | _ => none
def allSome {α β : Type} (f : α → Option β) : List α → Option (List β)
  | [] => some []
  | x :: xs => match f x with
    | none => none
    | some y => match allSome f xs with
      | none => none
      | some ys => some (y :: ys)
def W.int? : W → Option Int
  | .int i => some i
  | _ => none
def W.bl? : W → Option Bool
  | .bl i => some i
  | _ => none
def W.str? : W → Option Str
  | .str i => some i
  | _ => none
def toD (st : Sto) : Nat → W → Option PyData
  | 0, _ => none
  | _ + 1, .non => some .none
  | _ + 1, .bl b => some (.bool b)
  | _ + 1, .int b => some (.int b)
  | _ + 1, .str b => some (.str b)
  | n + 1, .tup xs => match allSome (toD st n) xs with
    | some ds => some (.tuple ds)
    | none => none
  | n + 1, .vl xs => match allSome (toD st n) xs with
    | some ds => some (.list ds)
    | none => none
  | n + 1, .ref i => match st[i]? with
    | some (.lst xs) => (match allSome (toD st n) xs with
      | some ds => some (.list ds)
      | none => none)
    | _ => none
  | _ + 1, _ => none
abbrev dep : Nat := 12
def szL : Nat := 1000000
def new (o : Ob) (st : Sto) : R W := .ok (.ref st.length) (st ++ [o])
/-- a new list: in the store, or as a value that nobody changes -/
def mkL (m : Bool) (xs : List W) (st : Sto) : R W := if m then new (.lst xs) st else .ok (.vl xs) st
/-- a list that stands in the layer's heap as it is -/
def lstOf (st : Sto) : W → Option (List W)
  | .vl xs => some xs
  | .ref i => match st[i]? with
    | some (.lst xs) => some xs
    | _ => none
  | _ => none
/-! ### references -/
mutual
def W.rlt (n : Nat) : W → Bool
  | .tup xs => W.rlts n xs
  | .fzl xs => W.rlts n xs
  | .vl xs => W.rlts n xs
  | .obj _ _ xs => W.rlts n xs
  | .ref i => decide (i < n)
  | _ => true
def W.rlts (n : Nat) : List W → Bool
  | [] => true
  | x :: xs => W.rlt n x && W.rlts n xs
end
def Ob.rlt (n : Nat) : Ob → Bool
  | .lst xs => W.rlts n xs
  | .ins _ fs => W.rlts n (fs.map (·.2))
  | .dK kvs => W.rlts n (kvs.map (·.2))
  | .dT kvs => W.rlts n (kvs.map (·.2))
def beqK {κ : Type} [DecidableEq κ] : List (κ × W) → List (κ × W) → Bool
  | [], [] => true
  | (k, x) :: r, (l, y) :: t => decide (k = l) && (W.beq x y && beqK r t)
  | _, _ => false
def Ob.beq : Ob → Ob → Bool
  | .lst xs, .lst ys => W.beqs xs ys
  | .ins C fs, .ins D gs => decide (C = D) && beqK fs gs
  | .dK fs, .dK gs => beqK fs gs
  | .dT fs, .dT gs => beqK fs gs
  | _, _ => false
/-- the first n objects of st' hold no later references: each is as in st0, or looked at -/
def gcOk (n : Nat) : Sto → Sto → Bool
  | [], _ => true
  | o :: r, o' :: r' => (o'.rlt n || Ob.beq o o') && gcOk n r r'
  | _ :: _, [] => false
/-- new lists in a result, from now on as values -/
def frzW (n : Nat) (st : Sto) : Nat → W → Option W
  | 0, _ => none
  | d + 1, w => if w.rlt n then some w else match w with
    | .ref i => (match st[i]? with
      | some (.lst xs) => (allSome (frzW n st d) xs).map .vl
      | _ => none)
    | .tup xs => (allSome (frzW n st d) xs).map .tup
    | .vl xs => (allSome (frzW n st d) xs).map .vl
    | _ => none
/-- behind a call: what it made and nobody can reach is forgotten -/
def gcR (keep : Bool) (st0 : Sto) : R W → R W
  | .ok w st => if gcOk st0.length st0 st then (match (if keep then (if w.rlt st0.length then some w else none) else frzW st0.length st 5 w) with
    | some u => .ok u (st.take st0.length)
    | none => .ok w st) else .ok w st
  | .err x st => if gcOk st0.length st0 st && W.rlts st0.length (x.fs.map (·.2)) then .err x (st.take st0.length) else .err x st
  | .stuck => .stuck

/-! ### the primitive operations -/
inductive Op where
  | add | sub | mul | fdiv | mod | pow | neg
  | eq | ne | lt | le | gt | ge | isN | isnotN | isB | isnotB | in_ | notin
  | ix | slc (lo hi : Bool) | rev
  | tup | lst (m : Bool)
  | len | abs | int | max2 | min2 | divmod | sum | tuple | list (m : Bool) | all | any | str
  | append | extend | split | join | sindex | fmt | repr | sset | addm
  deriving DecidableEq

def pAdd : W → W → Sto → R W
  | .int a, .int b, st => .ok (.int (a + b)) st
  | .str a, .str b, st => if a.length + b.length ≤ szL then .ok (.str (a ++ b)) st else .stuck
  | .tup a, .tup b, st => if a.length + b.length ≤ szL then .ok (.tup (a ++ b)) st else .stuck
  | x, y, st => match lstOf st x, lstOf st y with
    | some a, some b => if a.length + b.length ≤ szL then .ok (.vl (a ++ b)) st else .stuck
    | _, _ => .stuck
/-- +, where a new list is to be changed -/
def pAddM (a b : W) (st : Sto) : R W := match lstOf st a, lstOf st b with
    | some xs, some ys => if xs.length + ys.length ≤ szL then new (.lst (xs ++ ys)) st else .stuck
    | _, _ => pAdd a b st
def mulOk (a b : Int) : Bool := decide (a.natAbs.log2 + b.natAbs.log2 < 1000000)
def repS (a : Str) (k : Int) : Str := if k < 1 then Str.empty else if (k == 1 || a.length == 0) = true then a else ⟨(List.replicate k.toNat a.cps).foldl (· ++ ·) #[]⟩
def pMul : W → W → Sto → R W
  | .int a, .int b, st => if mulOk a b then .ok (.int (a * b)) st else .stuck
  | .str a, .int k, st => if decide (-(2 ^ 63) ≤ k ∧ k < 2 ^ 63) && decide (a.length * k.toNat ≤ szL) then .ok (.str (repS a k)) st else .stuck
  | x, .int k, st => match lstOf st x with
    | some a => if decide (-(2 ^ 63) ≤ k ∧ k < 2 ^ 63) && decide (a.length * k.toNat ≤ szL) then .ok (.vl (List.replicate k.toNat a).flatten) st else .stuck
    | none => .stuck
  | _, _, _ => .stuck
def divOk (b : Int) : Bool := decide (0 < b) && decide (b.natAbs.log2 < 8000)
def pInt2 (ok : Int → Int → Bool) (f : Int → Int → W) : W → W → Sto → R W
  | .int a, .int b, st => if ok a b then .ok (f a b) st else .stuck
  | _, _, _ => .stuck
def pEq (neg : Bool) (a b : W) (st : Sto) : R W := match toD st dep a, toD st dep b with
  | some d, some e => if SeqAt.shaped d && SeqAt.shaped e then .ok (.bl (if neg then !PyData.eqv d e else PyData.eqv d e)) st else .stuck
  | _, _ => .stuck
def pIsN (neg : Bool) (a : W) (st : Sto) : R W := match a with
  | .non => .ok (.bl (!neg)) st
  | _ => .ok (.bl neg) st
def flatW : W → Bool
  | .non => true
  | .bl _ => true
  | .int _ => true
  | .str _ => true
  | _ => false
def eqW : W → W → Bool
  | .non, .non => true
  | .bl a, .bl b => a == b
  | .bl a, .int b => (if a then 1 else 0) == b
  | .int a, .bl b => a == (if b then 1 else 0)
  | .int a, .int b => a == b
  | .str a, .str b => decide (a = b)
  | _, _ => false
def pIn (neg : Bool) : W → W → Sto → R W
  | a, .tup xs, st => if flatW a && xs.all flatW then .ok (.bl (if neg then !(xs.any fun y => eqW y a) else xs.any fun y => eqW y a)) st else .stuck
  | .str a, .str b, st => .ok (.bl (if neg then (!(!(Builtin.Str.occurrences b a 0 b.length 1).isEmpty)) else !(Builtin.Str.occurrences b a 0 b.length 1).isEmpty)) st
  | a, b, st => match toD st dep a, toD st dep b with
    | some d, some (.list ds) => if SeqAt.shaped d && SeqAt.shaped (.list ds) then .ok (.bl (if neg then !(ds.any fun e => PyData.eqv e d) else ds.any fun e => PyData.eqv e d)) st else .stuck
    | _, _ => .stuck
def pIx : W → W → Sto → R W
  | .str z, .int i, st => if z.length ≤ szL then (match L2.atI z.cps.toList i with
    | some c => .ok (.str ⟨#[c]⟩) st
    | none => .stuck) else .stuck
  | a, .int i, st => match items st a with
    | some xs => (match L2.atI xs i with
      | some w => .ok w st
      | none => .stuck)
    | none => .stuck
  | _, _, _ => .stuck
def cutW (xs : List W) (lo hi : Option Int) : List W := (xs.drop (HT.sIx xs.length 0 lo)).take (HT.sIx xs.length xs.length hi - HT.sIx xs.length 0 lo)
def pCut (lo hi : Option Int) : W → Sto → R W
  | .str z, st => if z.length ≤ szL then .ok (.str (L2.cutS z lo hi)) st else .stuck
  | .tup xs, st => .ok (.tup (cutW xs lo hi)) st
  | .ref i, st => match st[i]? with
    | some (.lst xs) => .ok (.vl (cutW xs lo hi)) st
    | _ => .stuck
  | .fzl xs, st => .ok (.vl (cutW xs lo hi)) st
  | .vl xs, st => .ok (.vl (cutW xs lo hi)) st
  | _, _ => .stuck
def pSlc : Bool → Bool → List W → Sto → R W
  | true, true, [a, .int i, .int j], st => pCut (some i) (some j) a st
  | true, false, [a, .int i], st => pCut (some i) none a st
  | false, true, [a, .int j], st => pCut none (some j) a st
  | false, false, [a], st => pCut none none a st
  | _, _, _, _ => .stuck
def pLen : W → Sto → R W
  | .str z, st => if z.length ≤ szL then .ok (.int z.length) st else .stuck
  | a, st => match items st a with
    | some xs => .ok (.int xs.length) st
    | none => .stuck
def pInt1 (f : Int → W) : W → Sto → R W
  | .int a, st => .ok (f a) st
  | _, _ => .stuck
def pToInt : W → Sto → R W
  | .int a, st => .ok (.int a) st
  | .bl a, st => .ok (.int (if a then 1 else 0)) st
  | _, _ => .stuck
def pFmt : W → Sto → R W
  | .str y, st => if y.length ≤ szL then .ok (.str y) st else .stuck
  | .int i, st => if i.natAbs.log2 < 1920 then .ok (.str (toString i)) st else .stuck
  | _, _ => .stuck
def pRev : W → Sto → R W
  | .tup _, _ => .stuck
  | a, st => match items st a with
    | some xs => .ok (.vl xs.reverse) st
    | none => .stuck
def pSindex : W → W → Sto → R W
  | .str a, .str b, st => (match Txt.index0 a b with
    | some k => .ok (.int (k : Nat)) st
    | none => .stuck)
  | _, _, _ => .stuck
def pSum (a : W) (st : Sto) : R W := match lstOf st a with
  | some xs => (match allSome W.int? xs with
    | some ns => .ok (.int ns.sum) st
    | none => .stuck)
  | none => .stuck
def pBls (f : List Bool → Bool) (a : W) (st : Sto) : R W := match lstOf st a with
  | some xs => (match allSome W.bl? xs with
    | some ns => .ok (.bl (f ns)) st
    | none => .stuck)
  | none => .stuck
def pAppend (a b : W) (st : Sto) : R W := match a with
  | .ref i => (match st[i]? with
    | some (.lst xs) => if xs.length < szL then .ok .non (st.set i (.lst (xs ++ [b]))) else .stuck
    | _ => .stuck)
  | _ => .stuck
def pExtend (a b : W) (st : Sto) : R W := match a with
  | .ref i => (match st[i]?, lstOf st b with
    | some (.lst xs), some ys => if xs.length + ys.length ≤ szL then .ok .non (st.set i (.lst (xs ++ ys))) else .stuck
    | _, _ => .stuck)
  | _ => .stuck
def pSplit : W → W → Sto → R W
  | .str a, .str b, st => if (b.length == 0) = false ∧ a.length ≤ szL then .ok (.vl ((Txt.split a b).map W.str)) st else .stuck
  | _, _, _ => .stuck
def pJoin (a b : W) (st : Sto) : R W := match a with
  | .str s => (match items st b with
    | some xs => (match allSome W.str? xs with
      | some ys => if (ys.map (·.length)).sum + ys.length * s.length ≤ szL then .ok (.str (Txt.join s ys)) st else .stuck
      | none => .stuck)
    | none => .stuck)
  | _ => .stuck
def typeOfW (st : Sto) : W → Option (Sum String Str)
  | .non => some (.inl "NoneType")
  | .bl _ => some (.inl "bool")
  | .int _ => some (.inl "int")
  | .str _ => some (.inl "str")
  | .tup _ => some (.inl "tuple")
  | .vl _ => some (.inl "list")
  | .obj C _ _ => some (.inr C)
  | .ref i => match st[i]? with
    | some (.lst _) => some (.inl "list")
    | some (.ins C _) => some (.inr C)
    | some (.dK _) => some (.inl "dict")
    | some (.dT _) => some (.inl "dict")
    | _ => none
  | _ => none
/-- repr of data -/
def reprOk (d : PyData) : Bool := SeqAt.shaped d && (PyData.showable d && (!PyData.hasDict d && decide ((PyData.shown d).length ≤ szL)))
def pRepr (w : W) (st : Sto) : R W := match w with
  | .int i => if i.natAbs.log2 < 1920 then .ok (.str (toString i)) st else .stuck
  | .non => .ok (.str "None") st
  | .bl b => .ok (.str (if b then "True" else "False")) st
  | w => (match toD st dep w with
    | some (.tuple ds) => if reprOk (.tuple ds) then .ok (.str (PyData.shown (.tuple ds))) st else .stuck
    | some (.list ds) => if reprOk (.list ds) then .ok (.str (PyData.shown (.list ds))) st else .stuck
    | _ => .stuck)
/-- sorted(set(xs)) of ints -/
def insS (n : Int) : List Int → List Int
  | [] => [n]
  | m :: ms => if n < m then n :: m :: ms else if n = m then m :: ms else m :: insS n ms
def ssetI (ns : List Int) : List Int := ns.foldr insS []
def pSset (a : W) (st : Sto) : R W := match lstOf st a with
  | some xs => (match allSome W.int? xs with
    | some ns => if ns.length < 64 then .ok (.vl ((ssetI ns).map W.int)) st else .stuck
    | none => .stuck)
  | none => .stuck
def prim : Op → List W → Sto → R W
  | .add, [a, b], st => pAdd a b st
  | .sub, [a, b], st => pInt2 (fun _ _ => true) (fun i j => .int (i - j)) a b st
  | .mul, [a, b], st => pMul a b st
  | .fdiv, [a, b], st => pInt2 (fun _ j => divOk j) (fun i j => .int (i / j)) a b st
  | .mod, [a, b], st => pInt2 (fun _ j => decide (0 < j)) (fun i j => .int (i % j)) a b st
  | .pow, [a, b], st => pInt2 (fun i j => decide (0 ≤ j ∧ j ≤ 1000 ∧ i.natAbs < 1000)) (fun i j => .int (i ^ j.toNat)) a b st
  | .neg, [a], st => pInt1 (fun i => .int (-i)) a st
  | .eq, [a, b], st => pEq false a b st
  | .ne, [a, b], st => pEq true a b st
  | .lt, [a, b], st => pInt2 (fun _ _ => true) (fun i j => .bl (decide (i < j))) a b st
  | .le, [a, b], st => pInt2 (fun _ _ => true) (fun i j => .bl (decide (i ≤ j))) a b st
  | .gt, [a, b], st => pInt2 (fun _ _ => true) (fun i j => .bl (decide (i > j))) a b st
  | .ge, [a, b], st => pInt2 (fun _ _ => true) (fun i j => .bl (decide (i ≥ j))) a b st
  | .isN, [a], st => pIsN false a st
  | .isnotN, [a], st => pIsN true a st
  | .in_, [a, b], st => pIn false a b st
  | .notin, [a, b], st => pIn true a b st
  | .ix, [a, b], st => pIx a b st
  | .slc lo hi, ws, st => pSlc lo hi ws st
  | .tup, ws, st => if ws.length ≤ szL then .ok (.tup ws) st else .stuck
  | .lst m, ws, st => if ws.length ≤ szL then mkL m ws st else .stuck
  | .len, [a], st => pLen a st
  | .abs, [a], st => pInt1 (fun i => .int (if i < 0 then -i else i)) a st
  | .int, [a], st => pToInt a st
  | .fmt, [a], st => pFmt a st
  | .repr, [a], st => pRepr a st
  | .sset, [a], st => pSset a st
  | .addm, [a, b], st => pAddM a b st
  | .str, [a], st => pFmt a st
  | .rev, [a], st => pRev a st
  | .sindex, [a, b], st => pSindex a b st
  | .max2, [a, b], st => pInt2 (fun _ _ => true) (fun i j => .int (if j > i then j else i)) a b st
  | .min2, [a, b], st => pInt2 (fun _ _ => true) (fun i j => .int (if j < i then j else i)) a b st
  | .divmod, [a, b], st => pInt2 (fun _ j => divOk j) (fun i j => .tup [.int (i / j), .int (i % j)]) a b st
  | .sum, [a], st => pSum a st
  | .tuple, [a], st => (match items st a with
    | some xs => .ok (.tup xs) st
    | none => .stuck)
  | .list m, [a], st => (match items st a with
    | some xs => mkL m xs st
    | none => .stuck)
  | .all, [a], st => pBls (fun bs => bs.all id) a st
  | .any, [a], st => pBls (fun bs => bs.any id) a st
  | .append, [a, b], st => pAppend a b st
  | .extend, [a, b], st => pExtend a b st
  | .split, [a, b], st => pSplit a b st
  | .join, [a, b], st => pJoin a b st
  | _, _, _ => .stuck

/-! ### the language -/
inductive Tg where
  | nm (i : Nat) | tp (ts : List Tg)
mutual
inductive Ex where
  | bad | var (i : Nat) | con (w : W) | glo (x : Str)
  | op (o : Op) (es : List Ex)
  | bm (o : Op) (r : Ex) (es : List Ex)
  | and (a b : Ex) | or (a b : Ex) | not (a : Ex) | ite (c a b : Ex)
  | chain (o p : Op) (a b c : Ex)
  | cut (a b c : Ex)
  | call (f : Str) (perm : Option (List Nat)) (es : List Ex)
  | meth (o : Ex) (m : Str) (perm : Option (List Nat)) (es : List Ex)
  | mk (C : Str) (es : List Ar)
  | lsts (m : Bool) (es : List Ar)
  | fld (o : Ex) (f : Str)
  | isi (e : Ex) (c : Str)
  | eqo (neg : Bool) (a b : Ex)
  | stro (e : Ex)
  | fstr (es : List Ex)
  | lc (m : Bool) (tg : Tg) (own : List Nat) (it : It) (cs : List Ex) (e : Ex)
inductive Ar where
  | p (e : Ex) | s (e : Ex)
inductive It where
  | seq (e : Ex) | rng1 (e : Ex) | rng2 (a b : Ex) | rng3 (a b c : Ex) | enum (e : Ex) | zip (a b : Ex)
end
inductive Sm where
  | set (i : Nat) (e : Ex)
  | par (is : List Nat) (es : List Ex)
  | unp (t : Tg) (e : Ex)
  | fld (o : Ex) (f : Str) (e : Ex)
  | sub (o i e : Ex)
  | aug (i : Nat) (sub : Bool) (e : Ex)
  | unpS (o i : Ex) (j : Nat) (e : Ex)
  | exp (e : Ex) | ret (e : Ex) | retn | pass | brk | cont | never
  | ife (c : Ex) (a b : List Sm)
  | whl (c : Ex) (b : List Sm)
  | forr (t : Tg) (it : It) (b : List Sm)
  | raise (C : Str) (es : List Ex)

abbrev En := List (Option W)

/-! ### targets -/
mutual
def Tg.put : Tg → W → En → Option En
  | .nm i, w, env => some (env.set i (some w))
  | .tp ts, .tup ws, env => Tg.puts ts ws env
  | .tp _, _, _ => none
def Tg.puts : List Tg → List W → En → Option En
  | [], [], env => some env
  | t :: ts, w :: ws, env => match Tg.put t w env with
    | some env' => Tg.puts ts ws env'
    | none => none
  | _, _, _ => none
end

/-! ### programs -/
structure FnC where
  np : Nat
  star : Bool := false
  ns : Nat
  body : List Sm
structure Prg where
  fn : Str → Option FnC
  con : Str → Option W
  meth : Str → Str → Option Str
  fldOk : Str → Str → Bool
  at_ : Str → PySem.W.Frag → Addr
  par : Str → List Str × Bool
  init : Str → Option Str
  isi : Str → Sum String Str → Option Bool
  eqm : Str → Option Str
  strm : Str → Option Str
  keep : Str → Bool
  frz : Str → Bool
  fuel : Nat

/-- what is walked: the items, and where they stand if it is a list -/
structure Itm where
  xs : List W
  at_ : List (Nat × List W)
def Itm.chk (I : Itm) (st : Sto) : Bool := I.at_.all fun p => match items st (.ref p.1) with
  | some ys => W.beqs ys p.2
  | none => false
def wat : W → List W → List (Nat × List W)
  | .ref i, xs => [(i, xs)]
  | _, _ => []
def rngW (lo : Int) (n : Nat) : List W := (List.range n).map fun (i : Nat) => .int (lo + (i : Int))
def enumW : Nat → List W → List W
  | _, [] => []
  | k, x :: xs => .tup [.int (k : Int), x] :: enumW (k + 1) xs
def zipW : List W → List W → List W
  | x :: xs, y :: ys => .tup [x, y] :: zipW xs ys
  | _, _ => []
def inL (i : Int) : Bool := decide (i.natAbs < 4611686018427387904)

def seqItm (w : W) (st1 : Sto) : R Itm := match w with
    | .str z => if z.length ≤ szL then .ok ⟨z.cps.toList.map fun c => .str ⟨#[c]⟩, []⟩ st1 else .stuck
    | w => (match items st1 w with
      | some xs => .ok ⟨xs, wat w xs⟩ st1
      | none => .stuck)
def rngItm1 (w : W) (st1 : Sto) : R Itm := match w with
    | .int n => if inL n then .ok ⟨rngW 0 n.toNat, []⟩ st1 else .stuck
    | _ => .stuck
def rngItm2 (x y : W) (st1 : Sto) : R Itm := match x, y with
    | .int a, .int b => if inL a && inL b then .ok ⟨rngW a (b - a).toNat, []⟩ st1 else .stuck
    | _, _ => .stuck
def rngD (lo : Int) (n : Nat) : List W := (List.range n).map fun (i : Nat) => .int (lo - (i : Int))
def rngItm3 (x y z : W) (st1 : Sto) : R Itm := match x, y, z with
    | .int a, .int b, .int c => if inL a && (inL b && decide (c = -1)) then .ok ⟨rngD a (a - b).toNat, []⟩ st1 else .stuck
    | _, _, _ => .stuck
def enumItm (w : W) (st1 : Sto) : R Itm := match items st1 w with
      | some xs => .ok ⟨enumW 0 xs, wat w xs⟩ st1
      | none => .stuck
def zipItm (x y : W) (st2 : Sto) : R Itm := match items st2 x, items st2 y with
      | some xs, some ys => .ok ⟨zipW xs ys, wat x xs ++ wat y ys⟩ st2
      | _, _ => .stuck

/-! ### evaluation -/
abbrev Cl := Str → List W → Sto → R W
def lcRun (f : W → Sto → R (Option W)) (I : Itm) : List W → List W → Sto → R (List W)
  | [], acc, st => if I.chk st then .ok acc st else .stuck
  | x :: xs, acc, st => if I.chk st then (f x st).bind fun y st1 => match y with
      | some w => lcRun f I xs (acc ++ [w]) st1
      | none => lcRun f I xs acc st1
    else .stuck
def lcBody (tg : Tg) (env : En) (c : En → Sto → R Bool) (e : En → Sto → R W) (x : W) (st2 : Sto) : R (Option W) := match Tg.put tg x env with
  | some env' => (c env' st2).bind fun b st3 => if b then (gcR true st3 (e env' st3)).bind fun w st4 => .ok (some w) st4 else .ok none st3
  | none => .stuck
def wipeE (env : En) : List Nat → En
  | [] => env
  | v :: vs => (wipeE env vs).set v none
def tru : W → R W → R W → R W
  | .bl true, a, _ => a
  | .bl false, _, b => b
  | _, _, _ => .stuck
def noErr {α : Type} : R α → R α
  | .err _ _ => .stuck
  | r => r
def permW (ws : List W) : List Nat → Option (List W)
  | [] => some []
  | i :: is => match ws[i]?, permW ws is with
    | some w, some r => some (w :: r)
    | _, _ => none
def permO (ws : List W) : Option (List Nat) → Option (List W)
  | none => some ws
  | some p => permW ws p
/-- the receiver of a method of a built-in type -/
def recvOk : Op → W → Sto → Bool
  | .append, .ref i, st => match st[i]? with
    | some (.lst _) => true
    | _ => false
  | .extend, .ref i, st => match st[i]? with
    | some (.lst _) => true
    | _ => false
  | .split, .str _, _ => true
  | .join, .str _, _ => true
  | .sindex, .str _, _ => true
  | _, _, _ => false
def fldsOf (st : Sto) : W → Option (Str × List (Str × W))
  | .obj C ns xs => some (C, ns.zip xs)
  | .ref i => match st[i]? with
    | some (.ins C fs) => some (C, fs)
    | _ => none
  | _ => none
/-- an instance made: in the store, or as a value that nobody changes -/
def mkO (z : Bool) (st1 st2 : Sto) : R W := if z then (match st2[st1.length]? with
    | some (.ins C fs) => if gcOk st1.length st1 st2 && W.rlts st1.length (fs.map (·.2)) then .ok (.obj C (fs.map (·.1)) (fs.map (·.2))) (st2.take st1.length) else .ok (.ref st1.length) st2
    | _ => .ok (.ref st1.length) st2) else .ok (.ref st1.length) st2
/-! ### == with an own __eq__ -/
def dataEq (st : Sto) (x y : W) : Option Bool := match toD st dep x, toD st dep y with
  | some d, some e => if SeqAt.shaped d && SeqAt.shaped e then some (PyData.eqv d e) else none
  | _, _ => none
def eqAll (f : W → W → Sto → R Bool) (l : Bool) : List W → List W → Sto → R Bool
  | x :: xs, y :: ys, st => (f x y st).bind fun b st1 => if b then eqAll f l xs ys st1 else .ok false st1
  | _, _, st => .ok l st
def blR : R W → R Bool
  | .ok (.bl b) st => .ok b st
  | _ => .stuck
/-- two instances of one class, by its own __eq__ -/
def eqI (G : Prg) (cl : Cl) (x y : W) (st : Sto) : R Bool := match fldsOf st x, fldsOf st y with
  | some (C, _), some (D, _) => if C = D then (match G.eqm C with
    | some f => blR (cl f [x, y] st)
    | none => .stuck) else .stuck
  | _, _ => .stuck
/-! surely not one and the same -/
mutual
def W.dif : W → W → Bool
  | .bl a, .bl b => !(a == b)
  | .int a, .int b => !(a == b)
  | .str a, .str b => !decide (a = b)
  | .tup xs, .tup ys => W.difs xs ys
  | .obj _ ns xs, .obj _ ms ys => decide (ns = ms) && W.difs xs ys
  | _, _ => false
def W.difs : List W → List W → Bool
  | [], [] => false
  | x :: xs, y :: ys => W.dif x y || W.difs xs ys
  | _, _ => true
end
def stoEq : Sto → Sto → Bool
  | [], [] => true
  | o :: r, p :: t => Ob.beq o p && stoEq r t
  | _, _ => false
/-- two items that are instances held as values: they may be one and the same -/
def eqO (G : Prg) (cl : Cl) (x y : W) (st : Sto) : R Bool := (eqI G cl x y st).bind fun b st1 => if b then (if stoEq st st1 then .ok true st else .stuck) else if W.dif x y then .ok false st1 else .stuck
def eqG (G : Prg) (cl : Cl) : Nat → W → W → Sto → R Bool
  | 0, _, _, _ => .stuck
  | n + 1, x, y, st => match dataEq st x y with
    | some b => .ok b st
    | none => (match x, y with
      | .tup xs, .tup ys => eqAll (eqG G cl n) (xs.length == ys.length) xs ys st
      | .ref i, .ref j => if i = j then .ok true st else eqI G cl (.ref i) (.ref j) st
      | .obj _ _ _, .obj _ _ _ => eqO G cl x y st
      | _, _ => .stuck)
def eqDp : Nat := 5
/-- x == y, x != y as an expression -/
def eqT0 (G : Prg) (cl : Cl) (neg : Bool) (x y : W) (st : Sto) : R Bool := match dataEq st x y with
  | some b => .ok b st
  | none => (match x, y with
    | .tup xs, .tup ys => eqAll (eqG G cl eqDp) (xs.length == ys.length) xs ys st
    | .ref i, .ref j => if neg then .stuck else eqI G cl (.ref i) (.ref j) st
    | .obj _ _ _, .obj _ _ _ => if neg then .stuck else eqI G cl x y st
    | _, _ => .stuck)
def eqT (G : Prg) (cl : Cl) (neg : Bool) (x y : W) (st : Sto) : R W := (eqT0 G cl neg x y st).bind fun b st1 => .ok (.bl (if neg then !b else b)) st1
mutual
def ev (G : Prg) (cl : Cl) : Ex → En → Sto → R W
  | .bad, _, _ => .stuck
  | .var i, env, st => match env[i]? with
    | some (some w) => .ok w st
    | _ => .stuck
  | .con w, _, st => .ok w st
  | .glo x, _, st => match G.con x with
    | some w => .ok w st
    | none => .stuck
  | .op o es, env, st => (evs G cl es env st).bind fun ws st1 => prim o ws st1
  | .bm o r es, env, st => (ev G cl r env st).bind fun x st0 => if recvOk o x st0 then (evs G cl es env st0).bind fun ws st1 => prim o (x :: ws) st1 else .stuck
  | .and a b, env, st => (ev G cl a env st).bind fun w st1 => tru w (ev G cl b env st1) (.ok (.bl false) st1)
  | .or a b, env, st => (ev G cl a env st).bind fun w st1 => tru w (.ok (.bl true) st1) (ev G cl b env st1)
  | .not a, env, st => (ev G cl a env st).bind fun w st1 => tru w (.ok (.bl false) st1) (.ok (.bl true) st1)
  | .ite c a b, env, st => (ev G cl c env st).bind fun w st1 => tru w (ev G cl a env st1) (ev G cl b env st1)
  | .chain o p a b c, env, st => (ev G cl a env st).bind fun x st1 => (ev G cl b env st1).bind fun y st2 => (prim o [x, y] st2).bind fun w st3 =>
      tru w ((ev G cl c env st3).bind fun z st4 => prim p [y, z] st4) (.ok (.bl false) st3)
  | .cut a b c, env, st => (ev G cl a env st).bind fun x st1 => (ev G cl b env st1).bind fun y st2 => match y with
    | .int _ => (ev G cl c env st2).bind fun z st3 => prim (.slc true true) [x, y, z] st3
    | _ => .stuck
  | .call f perm es, env, st => (evs G cl es env st).bind fun ws st1 => match permO ws perm with
    | some us => cl f us st1
    | none => .stuck
  | .meth o m perm es, env, st => (ev G cl o env st).bind fun x st0 => match fldsOf st0 x with
    | some (C, fs) => if (fs.lookup m).isNone then (match G.meth C m with
        | some f => (evs G cl es env st0).bind fun ws st1 => (match permO ws perm with
          | some us => cl f (x :: us) st1
          | none => .stuck)
        | none => .stuck) else .stuck
    | none => .stuck
  | .mk C es, env, st => (evR G cl es env st).bind fun ws st1 => match G.init C with
    | some f => (cl f (.ref st1.length :: ws) (st1 ++ [.ins C []])).bind fun r st2 => (match r with
      | .non => mkO (G.frz C) st1 st2
      | _ => .stuck)
    | none => .stuck
  | .lsts m es, env, st => (evR G cl es env st).bind fun ws st1 => prim (.lst m) ws st1
  | .fld o f, env, st => (ev G cl o env st).bind fun x st1 => match fldsOf st1 x with
    | some (C, fs) => if G.fldOk C f then (match fs.lookup f with
      | some w => .ok w st1
      | none => .stuck) else .stuck
    | none => .stuck
  | .isi e c, env, st => (ev G cl e env st).bind fun w st1 => match typeOfW st1 w with
    | some t => (match G.isi c t with
      | some b => .ok (.bl b) st1
      | none => .stuck)
    | none => .stuck
  | .eqo neg a b, env, st => (ev G cl a env st).bind fun x st1 => (ev G cl b env st1).bind fun y st2 => eqT G cl neg x y st2
  | .stro e, env, st => (ev G cl e env st).bind fun x st1 => match fldsOf st1 x with
    | some (C, _) => (match G.strm C with
      | some f => noErr ((cl f [x] st1).bind fun r st2 => (match r with
        | .str z => .ok (.str z) st2
        | _ => .stuck))
      | none => .stuck)
    | none => prim .str [x] st1
  | .fstr es, env, st => evJ G cl es Str.empty env st
  | .lc m tg own it cs e, env, st => (evI G cl it env st).bind fun I st1 => if I.xs.length ≤ szL then
      noErr ((lcRun (lcBody tg (wipeE env own) (fun env' st2 => evC G cl cs env' st2) (fun env' st3 => ev G cl e env' st3)) I I.xs [] st1).bind fun ws st5 => mkL m ws st5) else .stuck
def evs (G : Prg) (cl : Cl) : List Ex → En → Sto → R (List W)
  | [], _, st => .ok [] st
  | e :: es, env, st => (ev G cl e env st).bind fun w st1 => (evs G cl es env st1).bind fun ws st2 => .ok (w :: ws) st2
def evJ (G : Prg) (cl : Cl) : List Ex → Str → En → Sto → R W
  | [], acc, _, st => .ok (.str acc) st
  | e :: es, acc, env, st => (ev G cl e env st).bind fun w st1 => match w with
    | .str y => if (acc ++ y).length ≤ szL then evJ G cl es (acc ++ y) env st1 else .stuck
    | _ => .stuck
def evR (G : Prg) (cl : Cl) : List Ar → En → Sto → R (List W)
  | [], _, st => .ok [] st
  | .p e :: es, env, st => (ev G cl e env st).bind fun w st1 => (evR G cl es env st1).bind fun ws st2 => .ok (w :: ws) st2
  | .s e :: es, env, st => (ev G cl e env st).bind fun w st1 => match items st1 w with
    | some xs => (evR G cl es env st1).bind fun ws st2 => .ok (xs ++ ws) st2
    | none => .stuck
def evC (G : Prg) (cl : Cl) : List Ex → En → Sto → R Bool
  | [], _, st => .ok true st
  | e :: es, env, st => (ev G cl e env st).bind fun w st1 => match w with
    | .bl true => evC G cl es env st1
    | .bl false => .ok false st1
    | _ => .stuck
def evI (G : Prg) (cl : Cl) : It → En → Sto → R Itm
  | .seq e, env, st => (ev G cl e env st).bind seqItm
  | .rng1 e, env, st => (ev G cl e env st).bind rngItm1
  | .rng2 a b, env, st => (ev G cl a env st).bind fun x st1 => (ev G cl b env st1).bind fun y st2 => rngItm2 x y st2
  | .rng3 a b c, env, st => (ev G cl a env st).bind fun x st1 => (ev G cl b env st1).bind fun y st2 => (ev G cl c env st2).bind fun z st3 => rngItm3 x y z st3
  | .enum e, env, st => (ev G cl e env st).bind enumItm
  | .zip a b, env, st => (ev G cl a env st).bind fun x st1 => (ev G cl b env st1).bind fun y st2 => zipItm x y st2
end

inductive Fl where
  | nx (env : En) | rt (w : W) | bk (env : En) | ct (env : En)
inductive RS where
  | fl (f : Fl) (st : Sto) | er (x : Exn) (env : En) (st : Sto) | stuck
def RS.of {α : Type} (env : En) : R α → (α → Sto → RS) → RS
  | .ok a st, f => f a st
  | .err x st, _ => .er x env st
  | .stuck, _ => .stuck
def RS.next : RS → (En → Sto → RS) → RS
  | .fl (.nx env) st, f => f env st
  | r, _ => r
def truS : W → RS → RS → RS
  | .bl true, a, _ => a
  | .bl false, _, b => b
  | _, _, _ => .stuck
def whRun (c : En → Sto → R W) (b : En → Sto → RS) : Nat → En → Sto → RS
  | 0, _, _ => .stuck
  | n + 1, env, st => .of env (c env st) fun w st1 => truS w (match b env st1 with
      | .fl (.nx env2) st2 => whRun c b n env2 st2
      | .fl (.ct env2) st2 => whRun c b n env2 st2
      | .fl (.bk env2) st2 => .fl (.nx env2) st2
      | r => r) (.fl (.nx env) st1)
def forRun (tg : Tg) (b : En → Sto → RS) (I : Itm) : List W → En → Sto → RS
  | [], env, st => if I.chk st then .fl (.nx env) st else .stuck
  | x :: xs, env, st => if I.chk st then (match Tg.put tg x env with
      | some env1 => (match b env1 st with
        | .fl (.nx env2) st2 => forRun tg b I xs env2 st2
        | .fl (.ct env2) st2 => forRun tg b I xs env2 st2
        | .fl (.bk env2) st2 => .fl (.nx env2) st2
        | r => r)
      | none => .stuck) else .stuck
def parE : List Nat → List W → En → Option En
  | [], [], env => some env
  | i :: is, w :: ws, env => parE is ws (env.set i (some w))
  | _, _, _ => none
def putF (f : Str) (w : W) : List (Str × W) → List (Str × W)
  | [] => [(f, w)]
  | (g, x) :: r => if g = f then (f, w) :: r else (g, x) :: putF f w r
def augRun (sub : Bool) (x y : W) (env : En) (i : Nat) (st1 : Sto) : RS := match x, y with
  | .int a, .int b => .fl (.nx (env.set i (some (.int (if sub then a - b else a + b))))) st1
  | _, _ => .stuck
mutual
def ex (G : Prg) (cl : Cl) : Sm → En → Sto → RS
  | .set i e, env, st => .of env (ev G cl e env st) fun w st1 => .fl (.nx (env.set i (some w))) st1
  | .par is es, env, st => .of env (evs G cl es env st) fun ws st1 => match parE is ws env with
    | some env' => .fl (.nx env') st1
    | none => .stuck
  | .unp t e, env, st => .of env (ev G cl e env st) fun w st1 => match Tg.put t w env with
    | some env' => .fl (.nx env') st1
    | none => .stuck
  | .fld o f e, env, st => .of env (ev G cl e env st) fun w st1 => .of env (ev G cl o env st1) fun x st2 => match x with
    | .ref i => (match st2[i]? with
      | some (.ins C fs) => if fs.length < 900 && G.fldOk C f then .fl (.nx env) (st2.set i (.ins C (putF f w fs))) else .stuck
      | _ => .stuck)
    | _ => .stuck
  | .sub o i e, env, st => .of env (ev G cl e env st) fun w st1 => .of env (ev G cl o env st1) fun x st2 => .of env (ev G cl i env st2) fun y st3 => match x, y with
    | .ref a, .int k => (match st3[a]? with
      | some (.lst xs) => (match L2.ixN xs.length k with
        | some j => .fl (.nx env) (st3.set a (.lst (xs.set j w)))
        | none => .stuck)
      | _ => .stuck)
    | _, _ => .stuck
  | .unpS o i j e, env, st => .of env (ev G cl e env st) fun w st1 => match w with
    | .tup [w1, w2] => .of env (ev G cl o env st1) fun x st2 => .of env (ev G cl i env st2) fun y st3 => (match x, y with
      | .ref a, .int k => (match st3[a]? with
        | some (.lst xs) => (match L2.ixN xs.length k with
          | some n => .fl (.nx (env.set j (some w2))) (st3.set a (.lst (xs.set n w1)))
          | none => .stuck)
        | _ => .stuck)
      | _, _ => .stuck)
    | _ => .stuck
  | .aug i o e, env, st => match env[i]? with
    | some (some x) => .of env (ev G cl e env st) fun y st1 => augRun o x y env i st1
    | _ => .stuck
  | .exp e, env, st => .of env (ev G cl e env st) fun _ st1 => .fl (.nx env) st1
  | .ret e, env, st => .of env (ev G cl e env st) fun w st1 => .fl (.rt w) st1
  | .retn, _, st => .fl (.rt .non) st
  | .pass, env, st => .fl (.nx env) st
  | .brk, env, st => .fl (.bk env) st
  | .cont, env, st => .fl (.ct env) st
  | .never, _, _ => .stuck
  | .ife c a b, env, st => .of env (ev G cl c env st) fun w st1 => truS w (exs G cl a env st1) (exs G cl b env st1)
  | .whl c b, env, st => whRun (fun env st => ev G cl c env st) (fun env st => exs G cl b env st) G.fuel env st
  | .forr t it b, env, st => .of env (evI G cl it env st) fun I st1 => forRun t (fun env st => exs G cl b env st) I I.xs env st1
  | .raise C es, env, st => .stuck
def exs (G : Prg) (cl : Cl) : List Sm → En → Sto → RS
  | [], env, st => .fl (.nx env) st
  | s :: ss, env, st => (ex G cl s env st).next fun env1 st1 => exs G cl ss env1 st1
end
def startE (n : Nat) (ws : List W) : En := ws.map some ++ List.replicate (n - ws.length) none
def fin : RS → R W
  | .fl (.nx _) st => .ok .non st
  | .fl (.rt w) st => .ok w st
  | .er x _ st => .err x st
  | _ => .stuck
def callK (G : Prg) : Nat → Cl
  | 0, _, _, _ => .stuck
  | k + 1, f, ws, st => match G.fn f with
    | some fc => gcR (G.keep f) st (if fc.star then (if fc.np ≤ ws.length ∧ ws.length ≤ szL then fin (exs G (callK G k) fc.body (startE fc.ns (ws.take fc.np ++ [.tup (ws.drop fc.np)])) st) else .stuck)
      else if ws.length = fc.np then fin (exs G (callK G k) fc.body (startE fc.ns ws) st) else .stuck)
    | none => .stuck
end Zv

set_option maxRecDepth 100000
set_option maxHeartbeats 4000000
/-! Ev1: how values and stores stand in the layer's heap. -/
namespace Zv
open PySem PySem.Spec PyProof.Rows L2
def RdL (K : PySem.W.Frag) (H : Hp) (a : Addr) (vs : List V) : Prop :=
  (∃ o, H a = some (.frz o (.lst vs))) ∨ ∃ (o : Obj) (its : Array Value) (n : Nat), K.lookup a = some o ∧ o.cls = .type "list" ∧ o.dict = none ∧ o.data = .seq its n ∧ its.size ≤ sizeLine ∧ Vals vs its.toList
theorem RdL.sq {K : PySem.W.Frag} {H : Hp} {a : Addr} {vs : List V} (h : RdL K H a vs) : SqL K H a vs := by
  rcases h with ⟨o, h⟩ | h
  · exact .inl (.inr ⟨o, h⟩)
  · exact .inr h
/-- where the objects of the store stand; lists that are being made -/
abbrev Ad := List Addr × List Addr
def Ad.add (ad : Ad) (p : Addr) : Ad := (ad.1 ++ [p], ad.2)
mutual
def RV (K : PySem.W.Frag) (ad : Ad) (H : Hp) : W → V → Prop
  | .non, v => v = .non
  | .bl b, v => v = .bl b
  | .int i, v => v = .int i
  | .str x, v => v = .str x
  | .tup xs, v => ∃ a vs, v = .ref a ∧ SqT K H a vs ∧ RVs K ad H xs vs
  | .fzl xs, v => ∃ a vs, v = .ref a ∧ RdL K H a vs ∧ RVs K ad H xs vs
  | .vl xs, v => ∃ a vs, v = .ref a ∧ H a = some (.lst vs) ∧ (a ∉ ad.1 ∧ a ∉ ad.2) ∧ RVs K ad H xs vs
  | .obj C ns xs, v => ∃ a dx vs, v = .ref a ∧ H a = some (.ins (He.ga K C) dx (ns.zip vs)) ∧ (a ∉ ad.1 ∧ ns.length = xs.length) ∧ RVs K ad H xs vs
  | .ref i, v => ∃ a, ad.1[i]? = some a ∧ v = .ref a
  | .glo x, v => K.lookup (He.ga K x) ≠ none ∧ v = .ref (He.ga K x)
  | .bty n, v => v = .ty n
def RVs (K : PySem.W.Frag) (ad : Ad) (H : Hp) : List W → List V → Prop
  | [], vs => vs = []
  | x :: xs, vs => ∃ v r, vs = v :: r ∧ RV K ad H x v ∧ RVs K ad H xs r
end
def RF (K : PySem.W.Frag) (ad : Ad) (H : Hp) : List (Str × W) → List (Str × V) → Prop
  | [], vs => vs = []
  | x :: xs, vs => ∃ v r, vs = (x.1, v) :: r ∧ RV K ad H x.2 v ∧ RF K ad H xs r
def RK {κ : Type} (K : PySem.W.Frag) (ad : Ad) (H : Hp) : List (κ × W) → List (κ × V) → Prop
  | [], vs => vs = []
  | x :: xs, vs => ∃ v r, vs = (x.1, v) :: r ∧ RV K ad H x.2 v ∧ RK K ad H xs r
/-- the object o of the store stands at a -/
def RO (K : PySem.W.Frag) (ad : Ad) (H : Hp) (a : Addr) : Ob → Prop
  | .lst xs => ∃ vs, H a = some (.lst vs) ∧ RVs K ad H xs vs
  | .ins C fs => ∃ dx vs, H a = some (.ins (He.ga K C) dx vs) ∧ RK K ad H fs vs
  | .dK kvs => ∃ vs, H a = some (.dK vs) ∧ RK K ad H kvs vs
  | .dT kvs => ∃ vs, H a = some (.dT vs) ∧ RK K ad H kvs vs
structure SimH (K : PySem.W.Frag) (ad : Ad) (st : Sto) (H : Hp) : Prop where
  len : ad.1.length = st.length
  nd : ad.1.Nodup
  res : ∀ b, b ∈ ad.2 → b ∉ ad.1 ∧ ∃ l, H b = some (.lst l)
  obj : ∀ (i : Nat) (a : Addr) (o : Ob), ad.1[i]? = some a → st[i]? = some o → RO K ad H a o
structure Ext (ad ad' : Ad) (H H' : Hp) : Prop where
  pre : ad.1 <+: ad'.1
  res : ∃ t, ad'.2 = t ++ ad.2 ∧ ∀ b, b ∈ t → b ∉ ad.1 → H b = none
  old : ∀ b o, b ∉ ad.1 → H b = some o → H' b = some o
  new : ∀ b, b ∈ ad'.1 → b ∉ ad.1 → H b = none
theorem Ext.refl {ad : Ad} {H : Hp} : Ext ad ad H H := ⟨List.prefix_refl _, ⟨[], rfl, fun _ h => nomatch h⟩, fun _ _ _ h => h, fun _ h n => absurd h n⟩
theorem Ext.trans {ad ad1 ad2 : Ad} {H H1 H2 : Hp} (a : Ext ad ad1 H H1) (b : Ext ad1 ad2 H1 H2) : Ext ad ad2 H H2 where
  pre := a.pre.trans b.pre
  res := by
    obtain ⟨t, e, f⟩ := a.res
    obtain ⟨t2, e2, f2⟩ := b.res
    refine ⟨t2 ++ t, by rw [e2, e, List.append_assoc], fun c m n => ?_⟩
    rcases List.mem_append.mp m with m | m
    · by_cases q : c ∈ ad1.1
      · exact a.new c q n
      · have e := f2 c m q
        cases h : H c with
        | none => rfl
        | some o =>
          rw [a.old c o n h] at e
          cases e
    · exact f c m n
  old := fun c o n h => by
    refine b.old c o (fun m => ?_) (a.old c o n h)
    rw [a.new c m n] at h
    cases h
  new := fun c m n => by
    by_cases q : c ∈ ad1.1
    · exact a.new c q n
    · have e := b.new c m q
      cases h : H c with
      | none => rfl
      | some o =>
        rw [a.old c o n h] at e
        cases e
theorem Ext.get {ad ad' : Ad} {H H' : Hp} (x : Ext ad ad' H H') {i : Nat} {a : Addr} (h : ad.1[i]? = some a) : ad'.1[i]? = some a := by
  obtain ⟨t, e⟩ := x.pre
  have hi : i < ad.1.length := (List.getElem?_eq_some_iff.mp h).1
  rw [← e, List.getElem?_append_left hi]
  exact h
theorem Ext.sub {ad ad' : Ad} {H H' : Hp} (x : Ext ad ad' H H') {b : Addr} (m : b ∈ ad.2) : b ∈ ad'.2 := by
  obtain ⟨t, e, f⟩ := x.res
  rw [e]
  exact List.mem_append_right _ m
theorem Ext.out2 {ad ad' : Ad} {H H' : Hp} (x : Ext ad ad' H H') {a : Addr} {o : HO} (h : H a = some o) (n1 : a ∉ ad.1) (n : a ∉ ad.2) : a ∉ ad'.2 := fun m => by
  obtain ⟨t, e, f⟩ := x.res
  rw [e] at m
  rcases List.mem_append.mp m with m | m
  · rw [f a m n1] at h
    cases h
  · exact n m
theorem Ext.out {ad ad' : Ad} {H H' : Hp} (x : Ext ad ad' H H') {a : Addr} {o : HO} (h : H a = some o) (n : a ∉ ad.1) : a ∉ ad'.1 := fun m => by
  rw [x.new a m n] at h
  cases h
/-- what stands at an address of the store is no tuple, no table, no own dict -/
def Sto1 : HO → Prop
  | .lst _ => True
  | .ins _ _ _ => True
  | .dK _ => True
  | .dT _ => True
  | _ => False
theorem SimH.at_ {K : PySem.W.Frag} {ad : Ad} {st : Sto} {H : Hp} (S : SimH K ad st H) {a : Addr} (h : a ∈ ad.1) : ∃ o, H a = some o ∧ Sto1 o := by
  obtain ⟨i, hi, e⟩ := List.getElem_of_mem h
  have h1 : ad.1[i]? = some a := by rw [List.getElem?_eq_getElem hi, e]
  have hs : i < st.length := by rw [← S.len]; exact hi
  have h2 : st[i]? = some st[i] := List.getElem?_eq_getElem hs
  have r := S.obj i a _ h1 h2
  cases ho : st[i] with
  | lst xs => rw [ho] at r; obtain ⟨vs, e, _⟩ := r; exact ⟨_, e, trivial⟩
  | ins C fs => rw [ho] at r; obtain ⟨dx, vs, e, _⟩ := r; exact ⟨_, e, trivial⟩
  | dK kvs => rw [ho] at r; obtain ⟨vs, e, _⟩ := r; exact ⟨_, e, trivial⟩
  | dT kvs => rw [ho] at r; obtain ⟨vs, e, _⟩ := r; exact ⟨_, e, trivial⟩
theorem SimH.notin {K : PySem.W.Frag} {ad : Ad} {st : Sto} {H : Hp} (S : SimH K ad st H) {a : Addr} {o : HO} (h : H a = some o) (n : ¬ Sto1 o) : a ∉ ad.1 := fun m => by
  obtain ⟨o', e, q⟩ := S.at_ m
  rw [h] at e
  cases e
  exact n q
section
variable {K : PySem.W.Frag} {ad ad' : Ad} {st st' : Sto} {H H' : Hp}
theorem SimH.tup (S : SimH K ad st H) (x : Ext ad ad' H H') {a : Addr} {vs : List V} (h : SqT K H a vs) : SqT K H' a vs := by
  rcases h with (h | ⟨o, h⟩) | h
  · exact .inl (.inl (x.old _ _ (S.notin h (fun z => z)) h))
  · exact .inl (.inr ⟨o, x.old _ _ (S.notin h (fun z => z)) h⟩)
  · exact .inr h
theorem RdL.ext {a : Addr} {vs : List V} (S : SimH K ad st H) (x : Ext ad ad' H H') (h : RdL K H a vs) : RdL K H' a vs := by
  rcases h with ⟨o, h⟩ | h
  · exact .inl ⟨o, x.old _ _ (S.notin h (fun z => z)) h⟩
  · exact .inr h
mutual
theorem RV.ext (S : SimH K ad st H) (x : Ext ad ad' H H') : ∀ {w : W} {v : V}, RV K ad H w v → RV K ad' H' w v
  | .non, _, h => h
  | .bl _, _, h => h
  | .int _, _, h => h
  | .str _, _, h => h
  | .tup xs, v, h => by
    obtain ⟨a, vs, e, h1, h2⟩ := h
    exact ⟨a, vs, e, S.tup x h1, RVs.ext S x h2⟩
  | .fzl xs, v, h => by
    obtain ⟨a, vs, e, h1, h2⟩ := h
    exact ⟨a, vs, e, h1.ext S x, RVs.ext S x h2⟩
  | .vl xs, v, h => by
    obtain ⟨a, vs, e, h1, n, h2⟩ := h
    exact ⟨a, vs, e, x.old _ _ n.1 h1, ⟨x.out h1 n.1, x.out2 h1 n.1 n.2⟩, RVs.ext S x h2⟩
  | .obj C ns xs, v, h => by
    obtain ⟨a, dx, vs, e, h1, n, h2⟩ := h
    exact ⟨a, dx, vs, e, x.old _ _ n.1 h1, ⟨x.out h1 n.1, n.2⟩, RVs.ext S x h2⟩
  | .ref i, v, h => by
    obtain ⟨a, h1, e⟩ := h
    exact ⟨a, x.get h1, e⟩
  | .glo _, _, h => h
  | .bty _, _, h => h
theorem RVs.ext (S : SimH K ad st H) (x : Ext ad ad' H H') : ∀ {ws : List W} {vs : List V}, RVs K ad H ws vs → RVs K ad' H' ws vs
  | [], _, h => h
  | w :: ws, vs, h => by
    obtain ⟨v, r, e, h1, h2⟩ := h
    exact ⟨v, r, e, RV.ext S x h1, RVs.ext S x h2⟩
end
theorem RK.ext {κ : Type} (S : SimH K ad st H) (x : Ext ad ad' H H') : ∀ {ws : List (κ × W)} {vs : List (κ × V)}, RK K ad H ws vs → RK K ad' H' ws vs
  | [], _, h => h
  | w :: ws, vs, h => by
    obtain ⟨v, r, e, h1, h2⟩ := h
    exact ⟨v, r, e, RV.ext S x h1, RK.ext S x h2⟩
theorem RVs.length : ∀ {ws : List W} {vs : List V}, RVs K ad H ws vs → ws.length = vs.length
  | [], _, h => by rw [show _ = [] from h]; rfl
  | w :: ws, vs, h => by
    obtain ⟨v, r, rfl, h1, h2⟩ := h
    simp [RVs.length h2]
theorem RVs.get : ∀ {ws : List W} {vs : List V} {i : Nat} {w : W}, RVs K ad H ws vs → ws[i]? = some w → ∃ v, vs[i]? = some v ∧ RV K ad H w v
  | [], _, _, _, _, e => by simp at e
  | w :: ws, _, 0, _, h, e => by
    obtain ⟨v, r, rfl, h1, h2⟩ := h
    simp at e
    subst e
    exact ⟨v, rfl, h1⟩
  | w :: ws, _, i + 1, _, h, e => by
    obtain ⟨v, r, rfl, h1, h2⟩ := h
    obtain ⟨u, q1, q2⟩ := RVs.get (i := i) h2 (by simpa using e)
    exact ⟨u, by simpa using q1, q2⟩
theorem RVs.append : ∀ {ws us : List W} {vs xs : List V}, RVs K ad H ws vs → RVs K ad H us xs → RVs K ad H (ws ++ us) (vs ++ xs)
  | [], _, _, _, h, q => by rw [show _ = [] from h]; exact q
  | w :: ws, us, _, xs, h, q => by
    obtain ⟨v, r, rfl, h1, h2⟩ := h
    exact ⟨v, r ++ xs, rfl, h1, RVs.append h2 q⟩
theorem RVs.take : ∀ (n : Nat) {ws : List W} {vs : List V}, RVs K ad H ws vs → RVs K ad H (ws.take n) (vs.take n)
  | 0, _, _, _ => rfl
  | n + 1, [], _, h => by rw [show _ = [] from h]; rfl
  | n + 1, w :: ws, _, h => by
    obtain ⟨v, r, rfl, h1, h2⟩ := h
    exact ⟨v, r.take n, rfl, h1, RVs.take n h2⟩
theorem RVs.drop : ∀ (n : Nat) {ws : List W} {vs : List V}, RVs K ad H ws vs → RVs K ad H (ws.drop n) (vs.drop n)
  | 0, _, _, h => h
  | n + 1, [], _, h => by rw [show _ = [] from h]; rfl
  | n + 1, w :: ws, _, h => by
    obtain ⟨v, r, rfl, h1, h2⟩ := h
    exact RVs.drop n h2
theorem RVs.set : ∀ {ws : List W} {vs : List V} {w : W} {v : V} (i : Nat), RVs K ad H ws vs → RV K ad H w v → RVs K ad H (ws.set i w) (vs.set i v)
  | [], _, _, _, _, h, _ => by rw [show _ = [] from h]; rfl
  | w :: ws, _, _, _, 0, h, q => by
    obtain ⟨v, r, rfl, h1, h2⟩ := h
    exact ⟨_, r, rfl, q, h2⟩
  | w :: ws, _, _, _, i + 1, h, q => by
    obtain ⟨v, r, rfl, h1, h2⟩ := h
    exact ⟨v, _, rfl, h1, RVs.set i h2 q⟩
theorem RVs.one {w : W} {v : V} (h : RV K ad H w v) : RVs K ad H [w] [v] := ⟨v, [], rfl, h, rfl⟩
theorem RVs.cons {w : W} {v : V} {ws : List W} {vs : List V} (h : RV K ad H w v) (q : RVs K ad H ws vs) : RVs K ad H (w :: ws) (v :: vs) := ⟨v, vs, rfl, h, q⟩
theorem RVs.rev : ∀ {ws : List W} {vs : List V}, RVs K ad H ws vs → RVs K ad H ws.reverse vs.reverse
  | [], _, h => by rw [show _ = [] from h]; rfl
  | w :: ws, _, h => by
    obtain ⟨v, r, rfl, h1, h2⟩ := h
    rw [List.reverse_cons, List.reverse_cons]
    exact RVs.append (RVs.rev h2) (RVs.one h1)
theorem RK.look : ∀ {ws : List (Str × W)} {vs : List (Str × V)} {f : Str} {w : W}, RK K ad H ws vs → ws.lookup f = some w → ∃ v, vs.lookup f = some v ∧ RV K ad H w v
  | [], _, _, _, _, e => by cases e
  | (g, x) :: ws, _, f, w, h, e => by
    obtain ⟨v, r, rfl, h1, h2⟩ := h
    rw [List.lookup_cons] at e ⊢
    cases hb : f == g with
    | true =>
      rw [hb] at e
      cases e
      exact ⟨v, rfl, h1⟩
    | false =>
      rw [hb] at e
      exact RK.look h2 e
theorem RK.lookN : ∀ {ws : List (Str × W)} {vs : List (Str × V)} {f : Str}, RK K ad H ws vs → ws.lookup f = none → vs.lookup f = none
  | [], _, _, h, e => by rw [show _ = [] from h]; rfl
  | (g, x) :: ws, _, f, h, e => by
    obtain ⟨v, r, rfl, h1, h2⟩ := h
    rw [List.lookup_cons] at e ⊢
    cases hb : f == g with
    | true => rw [hb] at e; cases e
    | false =>
      rw [hb] at e
      exact RK.lookN h2 e
/-! ### a new object -/
theorem Ext.alloc {p : Addr} {o : HO} (hp : H p = none) : Ext ad (ad.add p) H (upd H p o) where
  pre := List.prefix_append _ _
  res := ⟨[], rfl, fun _ h => nomatch h⟩
  old := fun b u _ h => by rw [upd_ne (ne_of_none h hp)]; exact h
  new := fun b m n => by
    rcases List.mem_append.mp m with m | m
    · exact absurd m n
    · rw [List.mem_singleton.mp m]; exact hp
theorem RO.mono (S : SimH K ad st H) (x : Ext ad ad' H H') {a : Addr} {o : Ob} (hh : H' a = H a) (h : RO K ad H a o) : RO K ad' H' a o := by
  cases o with
  | lst xs => obtain ⟨vs, e, r⟩ := h; exact ⟨vs, hh.trans e, r.ext S x⟩
  | ins C fs => obtain ⟨dx, vs, e, r⟩ := h; exact ⟨dx, vs, hh.trans e, RK.ext S x r⟩
  | dK kvs => obtain ⟨vs, e, r⟩ := h; exact ⟨vs, hh.trans e, RK.ext S x r⟩
  | dT kvs => obtain ⟨vs, e, r⟩ := h; exact ⟨vs, hh.trans e, RK.ext S x r⟩
theorem SimH.free (S : SimH K ad st H) {p : Addr} (hp : H p = none) : p ∉ ad.1 := fun m => by
  obtain ⟨o, e, _⟩ := S.at_ m
  rw [hp] at e
  cases e
theorem SimH.freeR (S : SimH K ad st H) {p : Addr} (hp : H p = none) : p ∉ ad.2 := fun m => by
  obtain ⟨_, l, e⟩ := S.res _ m
  rw [hp] at e
  cases e
theorem SimH.alloc (S : SimH K ad st H) {p : Addr} {u : HO} {o : Ob} (hp : H p = none) (hn : RO K (ad.add p) (upd H p u) p o) : SimH K (ad.add p) (st ++ [o]) (upd H p u) where
  len := by simp [Ad.add, S.len]
  res := fun b m => by
    obtain ⟨n, l, e⟩ := S.res b m
    have hne : b ≠ p := fun z => by rw [z, hp] at e; cases e
    refine ⟨fun z => ?_, l, by rw [upd_ne hne]; exact e⟩
    rcases List.mem_append.mp z with z | z
    · exact n z
    · exact hne (List.mem_singleton.mp z)
  nd := by
    show (ad.1 ++ [p]).Nodup
    rw [List.nodup_append]
    refine ⟨S.nd, by simp, fun a ha b hb => ?_⟩
    rw [List.mem_singleton.mp hb]
    exact fun e => S.free hp (e ▸ ha)
  obj := fun i a q h1 h2 => by
    change (ad.1 ++ [p])[i]? = some a at h1
    by_cases hi : i < ad.1.length
    · rw [List.getElem?_append_left hi] at h1
      rw [List.getElem?_append_left (by rw [← S.len]; exact hi)] at h2
      have hm : a ∈ ad.1 := List.mem_of_getElem? h1
      have hne : a ≠ p := fun e => S.free hp (e ▸ hm)
      exact RO.mono S (Ext.alloc hp) (upd_ne hne) (S.obj i a q h1 h2)
    · have e : i = ad.1.length := by
        have := (List.getElem?_eq_some_iff.mp h1).1
        simp at this
        omega
      subst e
      rw [List.getElem?_append_right (Nat.le_refl _)] at h1
      rw [List.getElem?_append_right (by rw [S.len]; exact Nat.le_refl _), S.len] at h2
      simp at h1 h2
      subst h1
      subst h2
      exact hn
/-! ### a thing that is no object of the store (a tuple) -/
theorem Ext.side {p : Addr} {o : HO} (hp : H p = none) : Ext ad ad H (upd H p o) where
  pre := List.prefix_refl _
  res := ⟨[], rfl, fun _ h => nomatch h⟩
  old := fun b u _ h => by rw [upd_ne (ne_of_none h hp)]; exact h
  new := fun b m n => absurd m n
theorem SimH.side (S : SimH K ad st H) {p : Addr} {u : HO} (hp : H p = none) : SimH K ad st (upd H p u) where
  len := S.len
  nd := S.nd
  res := fun b m => by
    obtain ⟨n, l, e⟩ := S.res b m
    have hne : b ≠ p := fun z => by rw [z, hp] at e; cases e
    exact ⟨n, l, by rw [upd_ne hne]; exact e⟩
  obj := fun i a q h1 h2 => by
    have hne : a ≠ p := fun e => S.free hp (e ▸ List.mem_of_getElem? h1)
    exact RO.mono S (Ext.side hp) (upd_ne hne) (S.obj i a q h1 h2)
/-! ### an object is changed -/
theorem Ext.write {i : Nat} {a : Addr} {o : HO} (h : ad.1[i]? = some a) : Ext ad ad H (upd H a o) where
  pre := List.prefix_refl _
  res := ⟨[], rfl, fun _ h => nomatch h⟩
  old := fun b u n e => by
    have hne : b ≠ a := fun z => n (by rw [z]; exact List.mem_of_getElem? h)
    rw [upd_ne hne]; exact e
  new := fun b m n => absurd m n
theorem SimH.write (S : SimH K ad st H) {i : Nat} {a : Addr} {u : HO} {o : Ob} (h : ad.1[i]? = some a) (hn : RO K ad (upd H a u) a o) : SimH K ad (st.set i o) (upd H a u) where
  len := by simp [S.len]
  nd := S.nd
  res := fun b m => by
    obtain ⟨n, l, e⟩ := S.res b m
    have hne : b ≠ a := fun z => n (by rw [z]; exact List.mem_of_getElem? h)
    exact ⟨n, l, by rw [upd_ne hne]; exact e⟩
  obj := fun j b q h1 h2 => by
    by_cases e : j = i
    · subst e
      have hj : j < st.length := by rw [← S.len]; exact (List.getElem?_eq_some_iff.mp h).1
      rw [List.getElem?_set_self hj] at h2
      cases h2
      rw [h] at h1
      cases h1
      exact hn
    · rw [List.getElem?_set_ne (fun z => e z.symm)] at h2
      have hne : b ≠ a := fun z => by
        subst z
        have h3 := (List.getElem?_eq_some_iff.mp h).1
        have h4 := (List.getElem?_eq_some_iff.mp h1).1
        exact e ((List.getElem?_inj h3 S.nd).mp (h.trans h1.symm)).symm
      exact RO.mono S (Ext.write h) (upd_ne hne) (S.obj j b q h1 h2)
/-! ### a list that is being made, ahead of its place in the store -/
section
variable {D : Addr} {l l' : List V} (eD : H D = some (.lst l)) (mD : D ∈ ad.2)
include eD mD
mutual
theorem RV.side : ∀ {w : W} {v : V}, RV K ad H w v → RV K ad (upd H D (.lst l')) w v
  | .non, _, h => h
  | .bl _, _, h => h
  | .int _, _, h => h
  | .str _, _, h => h
  | .tup xs, v, h => by
    obtain ⟨a, vs, e, h1, h2⟩ := h
    refine ⟨a, vs, e, ?_, RVs.side h2⟩
    rcases h1 with (h | ⟨o, h⟩) | h
    · exact .inl (.inl (by rw [upd_ne (ne_of h eD (fun z => by cases z))]; exact h))
    · exact .inl (.inr ⟨o, by rw [upd_ne (ne_of h eD (fun z => by cases z))]; exact h⟩)
    · exact .inr h
  | .fzl xs, v, h => by
    obtain ⟨a, vs, e, h1, h2⟩ := h
    refine ⟨a, vs, e, ?_, RVs.side h2⟩
    rcases h1 with ⟨o, h⟩ | h
    · exact .inl ⟨o, by rw [upd_ne (ne_of h eD (fun z => by cases z))]; exact h⟩
    · exact .inr h
  | .vl xs, v, h => by
    obtain ⟨a, vs, e, h1, n, h2⟩ := h
    exact ⟨a, vs, e, by rw [upd_ne (fun z => n.2 (by rw [z]; exact mD))]; exact h1, n, RVs.side h2⟩
  | .obj C ns xs, v, h => by
    obtain ⟨a, dx, vs, e, h1, n, h2⟩ := h
    exact ⟨a, dx, vs, e, by rw [upd_ne (ne_of h1 eD (fun z => by cases z))]; exact h1, n, RVs.side h2⟩
  | .ref i, v, h => h
  | .glo _, _, h => h
  | .bty _, _, h => h
theorem RVs.side : ∀ {ws : List W} {vs : List V}, RVs K ad H ws vs → RVs K ad (upd H D (.lst l')) ws vs
  | [], _, h => h
  | w :: ws, vs, h => by
    obtain ⟨v, r, e, h1, h2⟩ := h
    exact ⟨v, r, e, RV.side h1, RVs.side h2⟩
end
theorem RK.side {κ : Type} : ∀ {ws : List (κ × W)} {vs : List (κ × V)}, RK K ad H ws vs → RK K ad (upd H D (.lst l')) ws vs
  | [], _, h => h
  | w :: ws, vs, h => by
    obtain ⟨v, r, e, h1, h2⟩ := h
    exact ⟨v, r, e, RV.side eD mD h1, RK.side h2⟩
theorem SimH.side2 (S : SimH K ad st H) : SimH K ad st (upd H D (.lst l')) where
  len := S.len
  nd := S.nd
  res := fun b m => by
    obtain ⟨n, k, e⟩ := S.res b m
    refine ⟨n, ?_⟩
    by_cases h : b = D
    · subst h
      exact ⟨l', upd_same⟩
    · exact ⟨k, by rw [upd_ne h]; exact e⟩
  obj := fun i a o h1 h2 => by
    have hne : a ≠ D := fun e => (S.res D mD).1 (e ▸ List.mem_of_getElem? h1)
    have h := S.obj i a o h1 h2
    cases o with
    | lst xs => obtain ⟨vs, e, r⟩ := h; exact ⟨vs, (upd_ne hne).trans e, RVs.side eD mD r⟩
    | ins C fs => obtain ⟨dx, vs, e, r⟩ := h; exact ⟨dx, vs, (upd_ne hne).trans e, RK.side eD mD r⟩
    | dK kvs => obtain ⟨vs, e, r⟩ := h; exact ⟨vs, (upd_ne hne).trans e, RK.side eD mD r⟩
    | dT kvs => obtain ⟨vs, e, r⟩ := h; exact ⟨vs, (upd_ne hne).trans e, RK.side eD mD r⟩
end
/-! ### other places -/
/-- what is told by ad1 of values whose references satisfy P is told by ad2 -/
structure Mv (P : W → Bool) (ad1 ad2 : Ad) (H : Hp) : Prop where
  tup : ∀ xs, P (.tup xs) = true → ∀ w ∈ xs, P w = true
  fzl : ∀ xs, P (.fzl xs) = true → ∀ w ∈ xs, P w = true
  vl : ∀ xs, P (.vl xs) = true → ∀ w ∈ xs, P w = true
  obj : ∀ C ns xs, P (.obj C ns xs) = true → ∀ w ∈ xs, P w = true
  ref : ∀ i a, P (.ref i) = true → ad1.1[i]? = some a → ad2.1[i]? = some a
  out : ∀ a C dx vs, H a = some (.ins C dx vs) → a ∉ ad1.1 → a ∉ ad2.1
  out2 : ∀ a vs, H a = some (.lst vs) → a ∉ ad1.1 → a ∉ ad1.2 → a ∉ ad2.1 ∧ a ∉ ad2.2
section
variable {P : W → Bool} {ad1 ad2 : Ad} (m : Mv P ad1 ad2 H)
include m
mutual
theorem RV.mv : ∀ {w : W} {v : V}, P w = true → RV K ad1 H w v → RV K ad2 H w v
  | .non, _, _, h => h
  | .bl _, _, _, h => h
  | .int _, _, _, h => h
  | .str _, _, _, h => h
  | .tup xs, v, p, h => by
    obtain ⟨a, vs, e, h1, h2⟩ := h
    exact ⟨a, vs, e, h1, RVs.mv (m.tup xs p) h2⟩
  | .fzl xs, v, p, h => by
    obtain ⟨a, vs, e, h1, h2⟩ := h
    exact ⟨a, vs, e, h1, RVs.mv (m.fzl xs p) h2⟩
  | .vl xs, v, p, h => by
    obtain ⟨a, vs, e, h1, n, h2⟩ := h
    exact ⟨a, vs, e, h1, m.out2 _ _ h1 n.1 n.2, RVs.mv (m.vl xs p) h2⟩
  | .obj C ns xs, v, p, h => by
    obtain ⟨a, dx, vs, e, h1, n, h2⟩ := h
    exact ⟨a, dx, vs, e, h1, ⟨m.out _ _ _ _ h1 n.1, n.2⟩, RVs.mv (m.obj C ns xs p) h2⟩
  | .ref i, v, p, h => by
    obtain ⟨a, h1, e⟩ := h
    exact ⟨a, m.ref i a p h1, e⟩
  | .glo _, _, _, h => h
  | .bty _, _, _, h => h
theorem RVs.mv : ∀ {ws : List W} {vs : List V}, (∀ w ∈ ws, P w = true) → RVs K ad1 H ws vs → RVs K ad2 H ws vs
  | [], _, _, h => h
  | w :: ws, vs, p, h => by
    obtain ⟨v, r, e, h1, h2⟩ := h
    exact ⟨v, r, e, RV.mv (p w (by simp)) h1, RVs.mv (fun x hx => p x (by simp [hx])) h2⟩
end
theorem RK.mv {κ : Type} : ∀ {ws : List (κ × W)} {vs : List (κ × V)}, (∀ w ∈ ws, P w.2 = true) → RK K ad1 H ws vs → RK K ad2 H ws vs
  | [], _, _, h => h
  | w :: ws, vs, p, h => by
    obtain ⟨v, r, e, h1, h2⟩ := h
    exact ⟨v, r, e, RV.mv m (p w (by simp)) h1, RK.mv (fun x hx => p x (by simp [hx])) h2⟩
end
/-- every value -/
theorem Mv.all {ad1 ad2 : Ad} (ref : ad1.1 <+: ad2.1) (out : ∀ a C dx vs, H a = some (.ins C dx vs) → a ∉ ad1.1 → a ∉ ad2.1) (out2 : ∀ a vs, H a = some (.lst vs) → a ∉ ad1.1 → a ∉ ad1.2 → a ∉ ad2.1 ∧ a ∉ ad2.2) : Mv (fun _ => true) ad1 ad2 H where
  tup := fun _ _ _ _ => rfl
  fzl := fun _ _ _ _ => rfl
  vl := fun _ _ _ _ => rfl
  obj := fun _ _ _ _ _ _ => rfl
  ref := fun i a _ h => by
    obtain ⟨t, e⟩ := ref
    rw [← e, List.getElem?_append_left (List.getElem?_eq_some_iff.mp h).1]
    exact h
  out := out
  out2 := out2
theorem RO.mv {P : W → Bool} {ad1 ad2 : Ad} (m : Mv P ad1 ad2 H) {a : Addr} {o : Ob} (p : match o with | .lst xs => ∀ w ∈ xs, P w = true | .ins _ fs => ∀ w ∈ fs, P w.2 = true | .dK fs => ∀ w ∈ fs, P w.2 = true | .dT fs => ∀ w ∈ fs, P w.2 = true) (h : RO K ad1 H a o) : RO K ad2 H a o := by
  cases o with
  | lst xs => obtain ⟨vs, e, r⟩ := h; exact ⟨vs, e, RVs.mv m p r⟩
  | ins C fs => obtain ⟨dx, vs, e, r⟩ := h; exact ⟨dx, vs, e, RK.mv m p r⟩
  | dK kvs => obtain ⟨vs, e, r⟩ := h; exact ⟨vs, e, RK.mv m p r⟩
  | dT kvs => obtain ⟨vs, e, r⟩ := h; exact ⟨vs, e, RK.mv m p r⟩
section
variable {D : Addr} {u : HO} (hD : H D = none)
include hD
mutual
theorem RV.begin : ∀ {w : W} {v : V}, RV K ad H w v → RV K (ad.1, D :: ad.2) (upd H D u) w v
  | .non, _, h => h
  | .bl _, _, h => h
  | .int _, _, h => h
  | .str _, _, h => h
  | .tup xs, v, h => by
    obtain ⟨a, vs, e, h1, h2⟩ := h
    refine ⟨a, vs, e, ?_, RVs.begin h2⟩
    rcases h1 with (h | ⟨o, h⟩) | h
    · exact .inl (.inl (by rw [upd_ne (ne_of_none h hD)]; exact h))
    · exact .inl (.inr ⟨o, by rw [upd_ne (ne_of_none h hD)]; exact h⟩)
    · exact .inr h
  | .fzl xs, v, h => by
    obtain ⟨a, vs, e, h1, h2⟩ := h
    refine ⟨a, vs, e, ?_, RVs.begin h2⟩
    rcases h1 with ⟨o, h⟩ | h
    · exact .inl ⟨o, by rw [upd_ne (ne_of_none h hD)]; exact h⟩
    · exact .inr h
  | .vl xs, v, h => by
    obtain ⟨a, vs, e, h1, n, h2⟩ := h
    have hne : a ≠ D := ne_of_none h1 hD
    refine ⟨a, vs, e, by rw [upd_ne hne]; exact h1, ⟨n.1, fun m => ?_⟩, RVs.begin h2⟩
    rcases List.mem_cons.mp m with m | m
    · exact hne m
    · exact n.2 m
  | .obj C ns xs, v, h => by
    obtain ⟨a, dx, vs, e, h1, n, h2⟩ := h
    exact ⟨a, dx, vs, e, by rw [upd_ne (ne_of_none h1 hD)]; exact h1, n, RVs.begin h2⟩
  | .ref i, v, h => h
  | .glo _, _, h => h
  | .bty _, _, h => h
theorem RVs.begin : ∀ {ws : List W} {vs : List V}, RVs K ad H ws vs → RVs K (ad.1, D :: ad.2) (upd H D u) ws vs
  | [], _, h => h
  | w :: ws, vs, h => by
    obtain ⟨v, r, e, h1, h2⟩ := h
    exact ⟨v, r, e, RV.begin h1, RVs.begin h2⟩
end
theorem RK.begin {κ : Type} : ∀ {ws : List (κ × W)} {vs : List (κ × V)}, RK K ad H ws vs → RK K (ad.1, D :: ad.2) (upd H D u) ws vs
  | [], _, h => h
  | w :: ws, vs, h => by
    obtain ⟨v, r, e, h1, h2⟩ := h
    exact ⟨v, r, e, RV.begin hD h1, RK.begin h2⟩
end
theorem Ext.begin {D : Addr} {u : HO} (hD : H D = none) : Ext ad (ad.1, D :: ad.2) H (upd H D u) where
  pre := List.prefix_refl _
  res := ⟨[D], rfl, fun b m _ => by rw [List.mem_singleton.mp m]; exact hD⟩
  old := fun b u _ h => by rw [upd_ne (ne_of_none h hD)]; exact h
  new := fun b m n => absurd m n
/-- a list is begun at D -/
theorem SimH.begin {D : Addr} (S : SimH K ad st H) (hD : H D = none) : SimH K (ad.1, D :: ad.2) st (upd H D (.lst [])) where
  len := S.len
  nd := S.nd
  res := fun b m => by
    rcases List.mem_cons.mp m with m | m
    · subst m
      exact ⟨S.free hD, [], upd_same⟩
    · obtain ⟨n, k, e⟩ := S.res b m
      have hne : b ≠ D := fun z => by rw [z, hD] at e; cases e
      exact ⟨n, k, by rw [upd_ne hne]; exact e⟩
  obj := fun i a o h1 h2 => by
    have h := S.obj i a o h1 h2
    have hne : a ≠ D := fun e => S.free hD (e ▸ List.mem_of_getElem? h1)
    cases o with
    | lst xs => obtain ⟨vs, e, r⟩ := h; exact ⟨vs, (upd_ne hne).trans e, RVs.begin hD r⟩
    | ins C fs => obtain ⟨dx, vs, e, r⟩ := h; exact ⟨dx, vs, (upd_ne hne).trans e, RK.begin hD r⟩
    | dK kvs => obtain ⟨vs, e, r⟩ := h; exact ⟨vs, (upd_ne hne).trans e, RK.begin hD r⟩
    | dT kvs => obtain ⟨vs, e, r⟩ := h; exact ⟨vs, (upd_ne hne).trans e, RK.begin hD r⟩
/-- fewer lists are being made -/
theorem SimH.over {l r1 r2 : List Addr} (S : SimH K (l, r1) st H) (h : ∀ b ∈ r2, b ∈ r1) : SimH K (l, r2) st H where
  len := S.len
  nd := S.nd
  res := fun b m => S.res b (h b m)
  obj := fun i a o h1 h2 => RO.mv (Mv.all (ad1 := (l, r1)) (ad2 := (l, r2)) (List.prefix_refl _) (fun _ _ _ _ _ n => n) (fun b u hb n1 n => ⟨n1, fun m => n (h b m)⟩)) (by cases o <;> exact fun _ _ => rfl) (S.obj i a o h1 h2)
theorem RVs.over {l r1 r2 : List Addr} {ws : List W} {vs : List V} (h : ∀ b ∈ r2, b ∈ r1) (r : RVs K (l, r1) H ws vs) : RVs K (l, r2) H ws vs :=
  RVs.mv (Mv.all (ad1 := (l, r1)) (ad2 := (l, r2)) (List.prefix_refl _) (fun _ _ _ _ _ n => n) (fun b u hb n1 n => ⟨n1, fun m => n (h b m)⟩)) (fun _ _ => rfl) r
/-- a list that was made takes its place in the store -/
theorem Mv.take {D : Addr} {l r1 r2 : List Addr} {vs : List V} (eD : H D = some (.lst vs)) (mD : D ∈ r1) (h : ∀ b ∈ r2, b ∈ r1) : Mv (fun _ => true) (l, r1) (l ++ [D], r2) H := Mv.all (ad1 := (l, r1)) (ad2 := (l ++ [D], r2)) (List.prefix_append _ _)
  (fun a C dx us e n m => by
    rcases List.mem_append.mp m with m | m
    · exact n m
    · rw [List.mem_singleton.mp m, eD] at e
      cases e)
  (fun a us e n1 n2 => ⟨fun m => by
    rcases List.mem_append.mp m with m | m
    · exact n1 m
    · exact n2 (by rw [List.mem_singleton.mp m]; exact mD), fun m => n2 (h a m)⟩)
theorem SimH.take {D : Addr} {l r1 r2 : List Addr} {vs : List V} {xs : List W} (S : SimH K (l, r1) st H) (eD : H D = some (.lst vs)) (mD : D ∈ r1) (nD : D ∉ r2) (h : ∀ b ∈ r2, b ∈ r1) (r : RVs K (l, r1) H xs vs) : SimH K (l ++ [D], r2) (st ++ [.lst xs]) H where
  len := by simp [S.len]
  res := fun b m => by
    obtain ⟨n, k, e⟩ := S.res b (h b m)
    refine ⟨fun z => ?_, k, e⟩
    rcases List.mem_append.mp z with z | z
    · exact n z
    · exact nD (List.mem_singleton.mp z ▸ m)
  nd := by
    show (l ++ [D]).Nodup
    rw [List.nodup_append]
    refine ⟨S.nd, by simp, fun a ha b hb => ?_⟩
    rw [List.mem_singleton.mp hb]
    exact fun e => (S.res D mD).1 (e ▸ ha)
  obj := fun i a q h1 h2 => by
    change (l ++ [D])[i]? = some a at h1
    have hl : l.length = st.length := S.len
    by_cases hi : i < l.length
    · rw [List.getElem?_append_left hi] at h1
      rw [List.getElem?_append_left (by rw [← hl]; exact hi)] at h2
      exact RO.mv (Mv.take eD mD h) (by cases q <;> exact fun _ _ => rfl) (S.obj i a q h1 h2)
    · have e : i = l.length := by
        have := (List.getElem?_eq_some_iff.mp h1).1
        simp at this
        omega
      subst e
      rw [List.getElem?_append_right (Nat.le_refl _)] at h1
      rw [List.getElem?_append_right (by rw [hl]; exact Nat.le_refl _), hl] at h2
      simp at h1 h2
      subst h1
      subst h2
      exact ⟨vs, eD, RVs.mv (Mv.take eD mD h) (fun _ _ => rfl) r⟩
end
end Zv

set_option maxRecDepth 100000
set_option maxHeartbeats 4000000
/-! Ev2: what a reading of a piece of the language is; the primitive operations. -/
namespace Zv
open PySem PySem.Spec PyProof.Rows L2
def RX (K : PySem.W.Frag) (ad : Ad) (H : Hp) (x : Exn) (cls : Value) (d : Option Addr) : Prop :=
  cls = .ref (He.ga K x.cls) ∧ ((x.fs = [] ∧ d = none) ∨ ∃ dd vs, d = some dd ∧ H dd = some (.xd vs) ∧ RK K ad H x.fs vs)
/-- whatever heap bears the result r, what is wanted of it holds -/
def Good {α β : Type} (K : PySem.W.Frag) (rel : Ad → Hp → α → β → Prop) (ad : Ad) (H : Hp) (r : R α) (Q : β → Hp → Prop) (E : XK) : Prop :=
  match r with
  | .ok w st' => ∀ ad' H' v, Ext ad ad' H H' → SimH K ad' st' H' → rel ad' H' w v → Q v H'
  | .err x st' => ∀ ad' H' cls d, Ext ad ad' H H' → SimH K ad' st' H' → RX K ad' H' x cls d → E cls d H'
  | .stuck => False
section
variable {α β γ δ : Type} {K : PySem.W.Frag} {rel : Ad → Hp → α → β → Prop} {rel' : Ad → Hp → γ → δ → Prop} {ad ad' : Ad} {H H' : Hp} {r : R α} {Q : β → Hp → Prop} {E : XK} {st : Sto}
theorem Good.ext (x : Ext ad ad' H H') (h : Good K rel ad H r Q E) : Good K rel ad' H' r Q E := by
  cases r with
  | ok w st' => exact fun ad2 H2 v x2 s2 rv => h ad2 H2 v (x.trans x2) s2 rv
  | err e st' => exact fun ad2 H2 c d x2 s2 rv => h ad2 H2 c d (x.trans x2) s2 rv
  | stuck => exact h
theorem Good.mono {Q' : β → Hp → Prop} (h : Good K rel ad H r Q E) (q : ∀ v H', Q v H' → Q' v H') : Good K rel ad H r Q' E := by
  cases r with
  | ok w st' => exact fun ad2 H2 v x2 s2 rv => q _ _ (h ad2 H2 v x2 s2 rv)
  | err e st' => exact h
  | stuck => exact h
/-- the first part done, the rest is good -/
theorem Good.step {f : α → Sto → R γ} {Q' : δ → Hp → Prop} (h : Good K rel' ad H (r.bind f) Q' E) :
    Good K rel ad H r (fun v H1 => ∃ a ad1 st1, r = .ok a st1 ∧ Ext ad ad1 H H1 ∧ SimH K ad1 st1 H1 ∧ rel ad1 H1 a v ∧ Good K rel' ad1 H1 (f a st1) Q' E) E := by
  cases r with
  | ok w st' => exact fun ad2 H2 v x2 s2 rv => ⟨w, ad2, st', rfl, x2, s2, rv, Good.ext x2 h⟩
  | err e st' => exact h
  | stuck => exact h
theorem Good.ok_ {a : α} {v : β} (h : Good K rel ad H (.ok a st) Q E) (S : SimH K ad st H) (r : rel ad H a v) : Q v H := h ad H v Ext.refl S r
end
abbrev rV (K : PySem.W.Frag) : Ad → Hp → W → V → Prop := RV K
abbrev rVs (K : PySem.W.Frag) : Ad → Hp → List W → List V → Prop := RVs K
section
variable {K : PySem.W.Frag} {ad : Ad} {H : Hp} {st : Sto} {Q : VK} {E : XK}
/-- a new list of the store -/
theorem Good.new_lst {ws : List W} {vs : List V} (S : SimH K ad st H) (r : RVs K ad H ws vs) (h : Good K (rV K) ad H (new (.lst ws) st) Q E) : ∀ p, H p = none → Q (.ref p) (upd H p (.lst vs)) := fun p hp => by
  have x : Ext ad (ad.add p) H (upd H p (.lst vs)) := Ext.alloc hp
  refine h (ad.add p) _ (.ref p) x (S.alloc hp ⟨vs, upd_same, r.ext S x⟩) ⟨p, ?_, rfl⟩
  show (ad.1 ++ [p])[st.length]? = some p
  rw [← S.len, List.getElem?_append_right (Nat.le_refl _)]
  simp
/-- a new list as a value -/
theorem Good.new_vl {ws : List W} {vs : List V} (S : SimH K ad st H) (r : RVs K ad H ws vs) (h : Good K (rV K) ad H (.ok (.vl ws) st) Q E) : ∀ p, H p = none → Q (.ref p) (upd H p (.lst vs)) := fun p hp =>
  h ad _ (.ref p) (Ext.side hp) (S.side hp) ⟨p, vs, rfl, upd_same, ⟨S.free hp, S.freeR hp⟩, r.ext S (Ext.side hp)⟩
theorem Good.new_mk {m : Bool} {ws : List W} {vs : List V} (S : SimH K ad st H) (r : RVs K ad H ws vs) (h : Good K (rV K) ad H (mkL m ws st) Q E) : ∀ p, H p = none → Q (.ref p) (upd H p (.lst vs)) := by
  cases m with
  | true => exact Good.new_lst S r h
  | false => exact Good.new_vl S r h
theorem lstOf_rel {w : W} {v : V} {ws : List W} (S : SimH K ad st H) (r : RV K ad H w v) (h : lstOf st w = some ws) : ∃ a vs, v = .ref a ∧ H a = some (.lst vs) ∧ RVs K ad H ws vs := by
  unfold lstOf at h
  split at h
  · cases h
    obtain ⟨a, vs, e, h1, _, h2⟩ := r
    exact ⟨a, vs, e, h1, h2⟩
  · split at h
    · rename_i hx
      cases h
      obtain ⟨a, h1, e⟩ := r
      obtain ⟨vs, k, q⟩ := S.obj _ _ _ h1 hx
      exact ⟨a, vs, e, k, q⟩
    · cases h
  · cases h
theorem Good.new_tup {ws : List W} {vs : List V} (S : SimH K ad st H) (r : RVs K ad H ws vs) (h : Good K (rV K) ad H (.ok (.tup ws) st) Q E) : ∀ p, H p = none → Q (.ref p) (upd H p (.tup vs)) := fun p hp =>
  h ad _ (.ref p) (Ext.side hp) (S.side hp) ⟨p, vs, rfl, SqT.of upd_same, r.ext S (Ext.side hp)⟩
/-- the items of a list or a tuple -/
theorem items_rel {w : W} {v : V} {ws : List W} (S : SimH K ad st H) (r : RV K ad H w v) (h : items st w = some ws) :
    ∃ a vs, v = .ref a ∧ RVs K ad H ws vs ∧ ((SqL K H a vs ∧ ∀ xs, w ≠ .tup xs) ∨ (SqT K H a vs ∧ w = .tup ws)) := by
  cases w with
  | tup xs =>
    obtain ⟨a, vs, e, h1, h2⟩ := r
    cases h
    exact ⟨a, vs, e, h2, .inr ⟨h1, rfl⟩⟩
  | fzl xs =>
    obtain ⟨a, vs, e, h1, h2⟩ := r
    cases h
    exact ⟨a, vs, e, h2, .inl ⟨h1.sq, fun _ z => by cases z⟩⟩
  | vl xs =>
    obtain ⟨a, vs, e, h1, _, h2⟩ := r
    cases h
    exact ⟨a, vs, e, h2, .inl ⟨SqL.of h1, fun _ z => by cases z⟩⟩
  | obj C ns xs => cases h
  | ref i =>
    obtain ⟨a, h1, e⟩ := r
    simp only [items] at h
    split at h
    · rename_i xs hx
      cases h
      obtain ⟨vs, q1, q2⟩ := S.obj i a _ h1 hx
      exact ⟨a, vs, e, q2, .inl ⟨SqL.of q1, fun _ z => by cases z⟩⟩
    · cases h
  | non => cases h
  | bl b => cases h
  | int b => cases h
  | str b => cases h
  | glo b => cases h
  | bty b => cases h
theorem allSome_len {α β : Type} {f : α → Option β} : ∀ {xs : List α} {ys : List β}, allSome f xs = some ys → xs.length = ys.length
  | [], ys, h => by cases h; rfl
  | x :: xs, ys, h => by
    simp only [allSome] at h
    split at h
    · cases h
    · split at h
      · cases h
      · rename_i zs hz
        cases h
        simp [allSome_len hz]
theorem ints_rel : ∀ {ws : List W} {vs : List V} {ns : List Int}, RVs K ad H ws vs → allSome W.int? ws = some ns → vs = ns.map V.int
  | [], _, _, r, h => by cases h; exact r
  | w :: ws, _, ns, r, h => by
    obtain ⟨v, t, rfl, r1, r2⟩ := r
    simp only [allSome] at h
    split at h
    · cases h
    · rename_i y hy
      split at h
      · cases h
      · rename_i zs hz
        cases h
        have e := ints_rel r2 hz
        cases w <;> simp [W.int?] at hy
        subst hy
        rw [e, show v = _ from r1]
        rfl
theorem bls_rel : ∀ {ws : List W} {vs : List V} {ns : List Bool}, RVs K ad H ws vs → allSome W.bl? ws = some ns → vs = ns.map V.bl
  | [], _, _, r, h => by cases h; exact r
  | w :: ws, _, ns, r, h => by
    obtain ⟨v, t, rfl, r1, r2⟩ := r
    simp only [allSome] at h
    split at h
    · cases h
    · rename_i y hy
      split at h
      · cases h
      · rename_i zs hz
        cases h
        have e := bls_rel r2 hz
        cases w <;> simp [W.bl?] at hy
        subst hy
        rw [e, show v = _ from r1]
        rfl
theorem strs_rel : ∀ {ws : List W} {vs : List V} {ns : List Str}, RVs K ad H ws vs → allSome W.str? ws = some ns → vs = ns.map V.str
  | [], _, _, r, h => by cases h; exact r
  | w :: ws, _, ns, r, h => by
    obtain ⟨v, t, rfl, r1, r2⟩ := r
    simp only [allSome] at h
    split at h
    · cases h
    · rename_i y hy
      split at h
      · cases h
      · rename_i zs hz
        cases h
        have e := strs_rel r2 hz
        cases w <;> simp [W.str?] at hy
        subst hy
        rw [e, show v = _ from r1]
        rfl
theorem of_strs : ∀ (ns : List Str), RVs K ad H (ns.map W.str) (ns.map V.str)
  | [] => rfl
  | x :: xs => ⟨_, _, rfl, rfl, of_strs xs⟩
mutual
theorem toD_rel (S : SimH K ad st H) : ∀ (n : Nat) {w : W} {v : V} {d : PyData}, RV K ad H w v → toD st n w = some d → Dp K H v d
  | 0, _, _, _, _, h => by cases h
  | n + 1, .non, v, d, r, h => by cases h; rw [show v = _ from r]; exact .non
  | n + 1, .bl b, v, d, r, h => by cases h; rw [show v = _ from r]; exact .bl b
  | n + 1, .int b, v, d, r, h => by cases h; rw [show v = _ from r]; exact .int b
  | n + 1, .str b, v, d, r, h => by cases h; rw [show v = _ from r]; exact .str b
  | n + 1, .tup xs, v, d, r, h => by
    obtain ⟨a, vs, rfl, h1, h2⟩ := r
    simp only [toD] at h
    split at h
    · rename_i ds hds
      cases h
      exact .tup h1 (toDs_rel S n h2 hds)
    · cases h
  | n + 1, .ref i, v, d, r, h => by
    obtain ⟨a, h1, rfl⟩ := r
    simp only [toD] at h
    split at h
    · rename_i xs hx
      obtain ⟨vs, q1, q2⟩ := S.obj i a _ h1 hx
      split at h
      · rename_i ds hds
        cases h
        exact .lst (SqL.of q1) (toDs_rel S n q2 hds)
      · cases h
    · cases h
  | n + 1, .vl xs, v, d, r, h => by
    obtain ⟨a, vs, rfl, h1, _, h2⟩ := r
    simp only [toD] at h
    split at h
    · rename_i ds hds
      cases h
      exact .lst (SqL.of h1) (toDs_rel S n h2 hds)
    · cases h
  | n + 1, .obj C ns xs, v, d, r, h => by cases h
  | n + 1, .fzl xs, v, d, r, h => by cases h
  | n + 1, .glo xs, v, d, r, h => by cases h
  | n + 1, .bty xs, v, d, r, h => by cases h
theorem toDs_rel (S : SimH K ad st H) : ∀ (n : Nat) {ws : List W} {vs : List V} {ds : List PyData}, RVs K ad H ws vs → allSome (toD st n) ws = some ds → DpAll K H vs ds
  | n, [], _, _, r, h => by cases h; rw [show _ = [] from r]; exact .nil
  | n, w :: ws, _, ds, r, h => by
    obtain ⟨v, t, rfl, r1, r2⟩ := r
    simp only [allSome] at h
    split at h
    · cases h
    · rename_i y hy
      split at h
      · cases h
      · rename_i zs hz
        cases h
        exact .cons (toD_rel S n r1 hy) (toDs_rel S n r2 hz)
end
theorem flat_rel {w : W} {v : V} (r : RV K ad H w v) (h : flatW w = true) : flatV v = true := by
  cases w <;> simp [flatW] at h <;> (rw [show v = _ from r]; rfl)
theorem eqW_rel {w u : W} {v x : V} (r : RV K ad H w v) (q : RV K ad H u x) (h : flatW w = true) (h2 : flatW u = true) : eqV v x = eqW w u := by
  cases w <;> simp [flatW] at h <;> cases u <;> simp [flatW] at h2 <;> (rw [show v = _ from r, show x = _ from q]; first | rfl | (simp [eqV, eqW]))
theorem flats_rel : ∀ {ws : List W} {vs : List V}, RVs K ad H ws vs → ws.all flatW = true → vs.all flatV = true
  | [], _, r, _ => by rw [show _ = [] from r]; rfl
  | w :: ws, _, r, h => by
    obtain ⟨v, t, rfl, r1, r2⟩ := r
    simp only [List.all_cons, Bool.and_eq_true] at h ⊢
    exact ⟨flat_rel r1 h.1, flats_rel r2 h.2⟩
theorem inV_rel {u : W} {x : V} (q : RV K ad H u x) (h2 : flatW u = true) : ∀ {ws : List W} {vs : List V}, RVs K ad H ws vs → ws.all flatW = true → inV x vs = ws.any fun y => eqW y u
  | [], _, r, _ => by rw [show _ = [] from r]; rfl
  | w :: ws, _, r, h => by
    obtain ⟨v, t, rfl, r1, r2⟩ := r
    simp only [List.all_cons, Bool.and_eq_true] at h
    have ih := inV_rel q h2 r2 h.2
    unfold inV at ih ⊢
    rw [List.any_cons, List.any_cons, ih, eqW_rel r1 q h.1 h2]
end
/-! ### forgetting -/
theorem rlts_mem {n : Nat} : ∀ {xs : List W}, W.rlts n xs = true → ∀ w ∈ xs, w.rlt n = true
  | [], _, _, m => by cases m
  | x :: xs, h, w, m => by
    simp only [W.rlts, Bool.and_eq_true] at h
    rcases List.mem_cons.mp m with rfl | m
    · exact h.1
    · exact rlts_mem h.2 w m
theorem rlts_memK {κ : Type} {n : Nat} {xs : List (κ × W)} (h : W.rlts n (xs.map (·.2)) = true) : ∀ w ∈ xs, w.2.rlt n = true := fun w m =>
  rlts_mem h w.2 (List.mem_map_of_mem m)
theorem Mv.cut {ad ad' : Ad} {H : Hp} (pre : ad.1 <+: ad'.1) (res : ∀ {b}, b ∈ ad.2 → b ∈ ad'.2) : Mv (W.rlt ad.1.length) ad' ad H where
  tup := fun xs h => rlts_mem h
  fzl := fun xs h => rlts_mem h
  vl := fun xs h => rlts_mem h
  obj := fun C ns xs h => rlts_mem h
  ref := fun i a h e => by
    obtain ⟨t, q⟩ := pre
    have hi : i < ad.1.length := of_decide_eq_true h
    rw [← q, List.getElem?_append_left hi] at e
    exact e
  out := fun a C dx vs _ n m => n (by
    obtain ⟨t, q⟩ := pre
    rw [← q]
    exact List.mem_append_left _ m)
  out2 := fun a vs _ n1 n => ⟨fun m => n1 (by
    obtain ⟨t, q⟩ := pre
    rw [← q]
    exact List.mem_append_left _ m), fun m => n (res m)⟩
section
variable {K : PySem.W.Frag} {ad ad' : Ad} {H H' : Hp} {st st' : Sto} {Q : VK} {E : XK}
mutual
theorem RV.rlt : ∀ {w : W} {v : V}, RV K ad H w v → w.rlt ad.1.length = true
  | .non, _, _ => rfl
  | .bl _, _, _ => rfl
  | .int _, _, _ => rfl
  | .str _, _, _ => rfl
  | .tup xs, v, h => by
    obtain ⟨a, vs, e, h1, h2⟩ := h
    exact RVs.rlt h2
  | .fzl xs, v, h => by
    obtain ⟨a, vs, e, h1, h2⟩ := h
    exact RVs.rlt h2
  | .vl xs, v, h => by
    obtain ⟨a, vs, e, h1, _, h2⟩ := h
    exact RVs.rlt h2
  | .obj C ns xs, v, h => by
    obtain ⟨a, dx, vs, e, h1, _, h2⟩ := h
    exact RVs.rlt h2
  | .ref i, v, h => by
    obtain ⟨a, h1, e⟩ := h
    exact decide_eq_true (List.getElem?_eq_some_iff.mp h1).1
  | .glo _, _, _ => rfl
  | .bty _, _, _ => rfl
theorem RVs.rlt : ∀ {ws : List W} {vs : List V}, RVs K ad H ws vs → W.rlts ad.1.length ws = true
  | [], _, _ => rfl
  | w :: ws, vs, h => by
    obtain ⟨v, r, e, h1, h2⟩ := h
    simp only [W.rlts, RV.rlt h1, RVs.rlt h2, Bool.and_self]
end
theorem RK.rlt {κ : Type} : ∀ {ws : List (κ × W)} {vs : List (κ × V)}, RK K ad H ws vs → W.rlts ad.1.length (ws.map (·.2)) = true
  | [], _, _ => rfl
  | w :: ws, vs, h => by
    obtain ⟨v, r, e, h1, h2⟩ := h
    simp only [List.map_cons, W.rlts, RV.rlt h1, RK.rlt h2, Bool.and_self]
theorem RO.rlt {a : Addr} {o : Ob} (h : RO K ad H a o) : o.rlt ad.1.length = true := by
  cases o with
  | lst xs => obtain ⟨vs, e, r⟩ := h; exact RVs.rlt r
  | ins C fs => obtain ⟨dx, vs, e, r⟩ := h; exact RK.rlt r
  | dK kvs => obtain ⟨vs, e, r⟩ := h; exact RK.rlt r
  | dT kvs => obtain ⟨vs, e, r⟩ := h; exact RK.rlt r
theorem beqK_eq {κ : Type} [DecidableEq κ] : ∀ {xs ys : List (κ × W)}, beqK xs ys = true → xs = ys
  | [], ys, h => by cases ys <;> first | rfl | (simp [beqK] at h)
  | (k, x) :: xs, ys, h => by
    cases ys with
    | nil => simp [beqK] at h
    | cons y ys =>
      obtain ⟨l, y⟩ := y
      simp only [beqK, Bool.and_eq_true, decide_eq_true_eq] at h
      rw [h.1, W.beq_eq h.2.1, beqK_eq h.2.2]
theorem Ob.beq_eq {a b : Ob} (h : Ob.beq a b = true) : a = b := by
  cases a <;> cases b <;> simp [Ob.beq] at h
  · rw [W.beqs_eq h]
  · rw [h.1, beqK_eq h.2]
  · rw [beqK_eq h]
  · rw [beqK_eq h]
theorem gcOk_get {n : Nat} : ∀ {st0 st' : Sto}, gcOk n st0 st' = true → ∀ (i : Nat) (o : Ob), i < st0.length → st'[i]? = some o → st0[i]? = some o ∨ o.rlt n = true
  | [], _, _, i, o, hi, _ => by simp at hi
  | p :: r, [], h, _, _, _, _ => by simp [gcOk] at h
  | p :: r, p' :: r', h, i, o, hi, e => by
    simp only [gcOk, Bool.and_eq_true, Bool.or_eq_true] at h
    cases i with
    | zero =>
      simp at e
      subst e
      rcases h.1 with q | q
      · exact .inr q
      · rw [Ob.beq_eq q]; exact .inl rfl
    | succ i => exact gcOk_get h.2 i o (by simpa using hi) (by simpa using e)
theorem gcOk_len {n : Nat} : ∀ {st0 st' : Sto}, gcOk n st0 st' = true → st0.length ≤ st'.length
  | [], _, _ => Nat.zero_le _
  | p :: r, [], h => by simp [gcOk] at h
  | p :: r, p' :: r', h => by
    simp only [gcOk, Bool.and_eq_true] at h
    simp [gcOk_len h.2]
theorem SimH.cut {st0 : Sto} (S : SimH K ad st0 H) (x : Ext ad ad' H H') (S' : SimH K ad' st' H') (h : gcOk st0.length st0 st' = true) : SimH K ad (st'.take st0.length) H' where
  len := by
    rw [List.length_take, S.len, Nat.min_eq_left (gcOk_len h)]
  nd := S.nd
  res := fun b m => ⟨(S.res b m).1, (S'.res b (x.sub m)).2⟩
  obj := fun i a o h1 h2 => by
    have hi : i < ad.1.length := (List.getElem?_eq_some_iff.mp h1).1
    have hi0 : i < st0.length := by rw [← S.len]; exact hi
    rw [List.getElem?_take_of_lt hi0] at h2
    have r := S'.obj i a o (x.get h1) h2
    have hr : o.rlt ad.1.length = true := by
      rcases gcOk_get h i o hi0 h2 with q | q
      · exact RO.rlt (S.obj i a o h1 q)
      · rw [S.len]; exact q
    refine RO.mv (Mv.cut x.pre x.sub) ?_ r
    cases o with
    | lst xs => exact rlts_mem hr
    | ins C fs => exact rlts_memK hr
    | dK fs => exact rlts_memK hr
    | dT fs => exact rlts_memK hr
theorem Ext.cut (x : Ext ad ad' H H') : Ext ad ad H H' := ⟨List.prefix_refl _, ⟨[], rfl, fun _ h => nomatch h⟩, x.old, fun _ m n => absurd m n⟩
theorem Ext.later (x : Ext ad ad' H H') (S' : SimH K ad' st' H') {i : Nat} {a : Addr} (h : ad'.1[i]? = some a) (hi : ad.1.length ≤ i) : a ∉ ad.1 := fun m => by
  obtain ⟨j, hj, e⟩ := List.getElem_of_mem m
  have h1 : ad.1[j]? = some a := by rw [List.getElem?_eq_getElem hj, e]
  have h2 := x.get h1
  have h3 := (List.getElem?_eq_some_iff.mp h2).1
  have := (List.getElem?_inj h3 S'.nd).mp (h2.trans h.symm)
  omega
mutual
theorem frz_rel (x : Ext ad ad' H H') (S' : SimH K ad' st' H') : ∀ (d : Nat) {w u : W} {v : V}, frzW ad.1.length st' d w = some u → RV K ad' H' w v → RV K ad H' u v
  | 0, _, _, _, h, _ => by cases h
  | d + 1, w, u, v, h, r => by
    unfold frzW at h
    split at h
    · rename_i hw
      cases h
      exact RV.mv (Mv.cut x.pre x.sub) hw r
    · rename_i hw
      split at h
      · rename_i i
        split at h
        · rename_i xs hx
          obtain ⟨a, h1, rfl⟩ := r
          obtain ⟨vs, k, q⟩ := S'.obj _ _ _ h1 hx
          simp only [Option.map_eq_some_iff] at h
          obtain ⟨ys, hy, rfl⟩ := h
          have hi : ad.1.length ≤ i := by
            simp only [W.rlt, decide_eq_true_eq] at hw
            omega
          exact ⟨a, vs, rfl, k, ⟨x.later S' h1 hi, fun m => (S'.res a (x.sub m)).1 (List.mem_of_getElem? h1)⟩, frzs_rel x S' d hy q⟩
        · cases h
      · simp only [Option.map_eq_some_iff] at h
        obtain ⟨ys, hy, rfl⟩ := h
        obtain ⟨a, vs, e, h1, h2⟩ := r
        exact ⟨a, vs, e, h1, frzs_rel x S' d hy h2⟩
      · simp only [Option.map_eq_some_iff] at h
        obtain ⟨ys, hy, rfl⟩ := h
        obtain ⟨a, vs, e, h1, n, h2⟩ := r
        exact ⟨a, vs, e, h1, ⟨fun m => n.1 (by obtain ⟨t, q⟩ := x.pre; rw [← q]; exact List.mem_append_left _ m), fun m => n.2 (x.sub m)⟩, frzs_rel x S' d hy h2⟩
      · cases h
theorem frzs_rel (x : Ext ad ad' H H') (S' : SimH K ad' st' H') : ∀ (d : Nat) {ws us : List W} {vs : List V}, allSome (frzW ad.1.length st' d) ws = some us → RVs K ad' H' ws vs → RVs K ad H' us vs
  | d, [], us, vs, h, r => by cases h; exact r
  | d, w :: ws, us, vs, h, r => by
    obtain ⟨v, t, rfl, r1, r2⟩ := r
    simp only [allSome] at h
    split at h
    · cases h
    · rename_i y hy
      split at h
      · cases h
      · rename_i zs hz
        cases h
        exact ⟨v, t, rfl, frz_rel x S' d hy r1, frzs_rel x S' d hz r2⟩
end
theorem Good.gc {keep : Bool} {r : R W} (S : SimH K ad st H) (g : Good K (rV K) ad H (gcR keep st r) Q E) : Good K (rV K) ad H r Q E := by
  cases r with
  | stuck => exact g
  | ok w st' =>
    intro ad' H' v x S' rv
    simp only [gcR] at g
    split at g
    · rename_i hc
      split at g
      · rename_i u hu
        refine g ad H' v x.cut (S.cut x S' hc) ?_
        cases keep with
        | true =>
          simp only [if_true] at hu
          split at hu
          · rename_i hw
            cases hu
            rw [← S.len] at hw
            exact RV.mv (Mv.cut x.pre x.sub) hw rv
          · cases hu
        | false =>
          simp only [Bool.false_eq_true, if_false] at hu
          rw [← S.len] at hu
          exact frz_rel x S' 5 hu rv
      · exact g ad' H' v x S' rv
    · exact g ad' H' v x S' rv
  | err e st' =>
    intro ad' H' cls d x S' rv
    simp only [gcR] at g
    split at g
    · rename_i hc
      simp only [Bool.and_eq_true] at hc
      refine g ad H' cls d x.cut (S.cut x S' hc.1) ?_
      refine ⟨rv.1, ?_⟩
      rcases rv.2 with q | ⟨dd, vs, h1, h2, h3⟩
      · exact .inl q
      · refine .inr ⟨dd, vs, h1, h2, RK.mv (Mv.cut x.pre x.sub) ?_ h3⟩
        rw [S.len]
        exact rlts_memK hc.2
    · exact g ad' H' cls d x S' rv
theorem RK.zip {κ : Type} : ∀ {ws : List (κ × W)} {vs : List (κ × V)}, RK K ad H ws vs → vs = (ws.map (·.1)).zip (vs.map (·.2)) ∧ RVs K ad H (ws.map (·.2)) (vs.map (·.2))
  | [], _, h => by rw [show _ = [] from h]; exact ⟨rfl, rfl⟩
  | w :: ws, vs, h => by
    obtain ⟨v, r, rfl, h1, h2⟩ := h
    obtain ⟨e, q⟩ := RK.zip h2
    refine ⟨?_, _, _, rfl, h1, q⟩
    simp only [List.map_cons, List.zip_cons_cons]
    rw [← e]
/-- an instance made -/
theorem Good.mkO {z : Bool} {st1 : Sto} {a : Addr} (S : SimH K ad st H) (x : Ext ad ad' H H') (S' : SimH K ad' st1 H') (ha : ad'.1[st.length]? = some a) (g : Good K (rV K) ad H (mkO z st st1) Q E) : Q (.ref a) H' := by
  have base : Good K (rV K) ad H (.ok (.ref st.length) st1) Q E → Q (.ref a) H' := fun g => g ad' H' _ x S' ⟨a, ha, rfl⟩
  unfold Zv.mkO at g
  split at g
  · split at g
    · rename_i C fs hfs
      split at g
      · rename_i hc
        simp only [Bool.and_eq_true] at hc
        obtain ⟨dx, vs, k, q⟩ := S'.obj _ _ _ ha hfs
        obtain ⟨e, q2⟩ := RK.zip q
        refine g ad H' _ x.cut (S.cut x S' hc.1) ⟨a, dx, vs.map (·.2), rfl, by rw [← e]; exact k, ⟨x.later S' ha (by rw [S.len]; exact Nat.le_refl _), by simp⟩, RVs.mv (Mv.cut x.pre x.sub) ?_ q2⟩
        rw [S.len]
        exact rlts_mem hc.2
      · exact base g
    · exact base g
  · exact base g
theorem RK.ofZip {κ : Type} : ∀ {ns : List κ} {ws : List W} {vs : List V}, RVs K ad H ws vs → RK K ad H (ns.zip ws) (ns.zip vs)
  | [], _, _, _ => rfl
  | n :: ns, [], _, h => by rw [show _ = [] from h]; rfl
  | n :: ns, w :: ws, vs, h => by
    obtain ⟨v, r, rfl, h1, h2⟩ := h
    exact ⟨v, ns.zip r, rfl, h1, RK.ofZip h2⟩
theorem fldsOf_rel {w : W} {v : V} {C : Str} {fs : List (Str × W)} (S : SimH K ad st H) (r : RV K ad H w v) (h : fldsOf st w = some (C, fs)) : ∃ a dx vs, v = .ref a ∧ H a = some (.ins (He.ga K C) dx vs) ∧ RK K ad H fs vs := by
  unfold fldsOf at h
  split at h
  · cases h
    obtain ⟨a, dx, vs, e, h1, _, h2⟩ := r
    exact ⟨a, dx, _, e, h1, RK.ofZip h2⟩
  · split at h
    · rename_i hst
      cases h
      obtain ⟨a, h1, rfl⟩ := r
      obtain ⟨dx, vs, k1, q1⟩ := S.obj _ _ _ h1 hst
      exact ⟨a, dx, vs, rfl, k1, q1⟩
    · cases h
  · cases h
end
end Zv

set_option maxRecDepth 100000
set_option maxHeartbeats 4000000
/-! Ev3: the primitive operations are the layer's. -/
namespace Zv
open PySem PySem.Spec PyProof.Rows L2
def rP1 (K : PySem.W.Frag) (o : Op) : V → Hp → VK → Prop := fun x H Q => ∃ ad st w E, SimH K ad st H ∧ RV K ad H w x ∧ Good K (rV K) ad H (prim o [w] st) Q E
def rP2 (K : PySem.W.Frag) (o : Op) : R2 := fun x y H Q => ∃ ad st w1 w2 E, SimH K ad st H ∧ RV K ad H w1 x ∧ RV K ad H w2 y ∧ Good K (rV K) ad H (prim o [w1, w2] st) Q E
def rPn (K : PySem.W.Frag) (o : Op) : List V → Hp → VK → Prop := fun xs H Q => ∃ ad st ws E, SimH K ad st H ∧ RVs K ad H ws xs ∧ Good K (rV K) ad H (prim o ws st) Q E
theorem szL_le : szL ≤ sizeLine := by decide
section
variable {X : Cx} {K : PySem.W.Frag} {ad : Ad} {H : Hp} {st : Sto} {Q : VK} {E : XK}
theorem good_int2 {ok : Int → Int → Bool} {f : Int → Int → W} {w1 w2 : W} (h : Good K (rV K) ad H (pInt2 ok f w1 w2 st) Q E) : ∃ i j, w1 = .int i ∧ w2 = .int j ∧ ok i j = true ∧ Good K (rV K) ad H (.ok (f i j) st) Q E := by
  unfold pInt2 at h
  split at h
  · split at h
    · exact ⟨_, _, rfl, rfl, by assumption, h⟩
    · exact h.elim
  · exact h.elim
theorem good_int1 {f : Int → W} {w1 : W} (h : Good K (rV K) ad H (pInt1 f w1 st) Q E) : ∃ i, w1 = .int i ∧ Good K (rV K) ad H (.ok (f i) st) Q E := by
  unfold pInt1 at h
  split at h
  · exact ⟨_, rfl, h⟩
  · exact h.elim
theorem or_add : OpR X (binaryOp .Add) (rP2 X.K .add) := fun pins s σ H x y v u Q I rx ry h => by
  obtain ⟨ad, st, w1, w2, E, S, r1, r2, g⟩ := h
  change Good _ _ _ _ (pAdd w1 w2 st) _ _ at g
  unfold pAdd at g
  split at g
  · rename_i a b
    exact op_add pins s σ H x y v u Q I rx ry ⟨a, b, r1, r2, g.ok_ S rfl⟩
  · rename_i a b
    split at g
    · rename_i hl
      exact op_add_str pins s σ H x y v u Q I rx ry ⟨a, b, r1, r2, Nat.le_trans hl szL_le, g.ok_ S rfl⟩
    · exact g.elim
  · rename_i a b
    split at g
    · rename_i hl
      obtain ⟨p, vs, rfl, s1, q1⟩ := r1
      obtain ⟨q, us, rfl, s2, q2⟩ := r2
      refine op_catA pins s σ H _ _ v u Q I rx ry ⟨p, q, vs, us, rfl, rfl, s1, s2, ?_, fun e => ?_, fun e1 e2 => ?_, fun e1 e2 => ?_⟩
      · rw [← q1.length, ← q2.length]; exact Nat.le_trans hl szL_le
      · subst e
        have e0 : a = [] := List.eq_nil_of_length_eq_zero q1.length
        subst e0
        exact g.ok_ S ⟨q, us, rfl, s2, q2⟩
      · subst e2
        have e0 : b = [] := List.eq_nil_of_length_eq_zero q2.length
        subst e0
        rw [List.append_nil] at g
        exact g.ok_ S ⟨p, vs, rfl, s1, q1⟩
      · exact Good.new_tup S (q1.append q2) g
    · exact g.elim
  · split at g
    · rename_i a b e1 e2
      split at g
      · rename_i hl
        obtain ⟨p, vs, rfl, k1, q1⟩ := lstOf_rel S r1 e1
        obtain ⟨q, us, rfl, k2, q2⟩ := lstOf_rel S r2 e2
        refine op_cat pins s σ H _ _ v u Q I rx ry ⟨p, q, vs, us, rfl, rfl, k1, k2, ?_, Good.new_vl S (q1.append q2) g⟩
        rw [← q1.length, ← q2.length]; exact Nat.le_trans hl szL_le
      · exact g.elim
    · exact g.elim
theorem or_addm : OpR X (binaryOp .Add) (rP2 X.K .addm) := fun pins s σ H x y v u Q I rx ry h => by
  obtain ⟨ad, st, w1, w2, E, S, r1, r2, g⟩ := h
  change Good _ _ _ _ (pAddM w1 w2 st) _ _ at g
  unfold pAddM at g
  split at g
  · rename_i a b e1 e2
    split at g
    · rename_i hl
      obtain ⟨p, vs, rfl, k1, q1⟩ := lstOf_rel S r1 e1
      obtain ⟨q, us, rfl, k2, q2⟩ := lstOf_rel S r2 e2
      refine op_cat pins s σ H _ _ v u Q I rx ry ⟨p, q, vs, us, rfl, rfl, k1, k2, ?_, Good.new_lst S (q1.append q2) g⟩
      rw [← q1.length, ← q2.length]; exact Nat.le_trans hl szL_le
    · exact g.elim
  · exact or_add pins s σ H x y v u Q I rx ry ⟨ad, st, w1, w2, E, S, r1, r2, g⟩
theorem or_sub : OpR X (binaryOp .Sub) (rP2 X.K .sub) := fun pins s σ H x y v u Q I rx ry h => by
  obtain ⟨ad, st, w1, w2, E, S, r1, r2, g⟩ := h
  obtain ⟨i, j, rfl, rfl, _, g⟩ := good_int2 g
  exact op_sub pins s σ H x y v u Q I rx ry ⟨i, j, r1, r2, g.ok_ S rfl⟩
theorem flat_rep {a : List W} {vs : List V} (r : RVs K ad H a vs) : ∀ n : Nat, RVs K ad H (List.replicate n a).flatten (List.replicate n vs).flatten
  | 0 => rfl
  | n + 1 => by
    rw [List.replicate_succ, List.replicate_succ, List.flatten_cons, List.flatten_cons]
    exact r.append (flat_rep r n)
theorem rep_size0 (a : Array Nat) : ∀ (n : Nat) (b : Array Nat), ((List.replicate n a).foldl (· ++ ·) b).size = b.size + n * a.size
  | 0, b => by simp
  | n + 1, b => by
    rw [List.replicate_succ, List.foldl_cons, rep_size0 a n (b ++ a), Array.size_append, Nat.succ_mul]
    omega
theorem rep_size (a : Array Nat) (n : Nat) : ((List.replicate n a).foldl (· ++ ·) #[]).size = n * a.size := by
  rw [rep_size0]; simp
theorem or_mul : OpR X (binaryOp .Mult) (rP2 X.K .mul) := fun pins s σ H x y v u Q I rx ry h => by
  obtain ⟨ad, st, w1, w2, E, S, r1, r2, g⟩ := h
  change Good _ _ _ _ (pMul w1 w2 st) _ _ at g
  unfold pMul at g
  split at g
  · rename_i a b
    split at g
    · rename_i hm
      exact op_mulW pins s σ H x y v u Q I rx ry ⟨a, b, r1, r2, (by simpa [mulOk] using hm : a.natAbs.log2 + b.natAbs.log2 < 1000000), g.ok_ S rfl⟩
    · exact g.elim
  · rename_i a k
    split at g
    · rename_i hl
      simp only [Bool.and_eq_true, decide_eq_true_eq] at hl
      obtain ⟨⟨l1, l2⟩, l3⟩ := hl
      cases (show x = V.str a from r1)
      obtain ⟨t, rfl⟩ := rx
      cases (show y = V.int k from r2)
      obtain ⟨t2, rfl⟩ := ry
      have q : Q (.str (repS a k)) H := g.ok_ S rfl
      refine PySem.P.mul_str (by rw [decide_eq_false (by omega), decide_eq_false (by omega)]; rfl) (fun h1 h2 h3 => ?_) (fun h1 h2 => ?_) ?_
      · have hk : (0 : Int) < k := by omega
        have h4 : ((2 ^ 63 - 1 : Int) / k + 1) * k > 2 ^ 63 - 1 := by
          have := Int.lt_ediv_add_one_mul_self (2 ^ 63 - 1 : Int) hk
          omega
        have h5 : (a.length : Int) * k ≥ ((2 ^ 63 - 1 : Int) / k + 1) * k := Int.mul_le_mul_of_nonneg_right (by omega) (by omega)
        have h6 : ((a.length * k.toNat : Nat) : Int) = (a.length : Int) * k := by
          rw [Int.natCast_mul, Int.toNat_of_nonneg (by omega)]
        have h7 : a.length * k.toNat ≤ 1000000 := l3
        omega
      · unfold Builtin.Str.tooLong
        have h8 : a.length * k.toNat ≤ sizeLine := Nat.le_trans l3 szL_le
        simp only [decide_eq_false_iff_not]
        exact Nat.not_lt.mpr h8
      · unfold repS at q
        split
        · rename_i c
          rw [if_pos c] at q
          exact ⟨by decide, .str _, H, I.tok _, ⟨_, rfl⟩, q⟩
        · rename_i c
          rw [if_neg c] at q
          split
          · rename_i c2
            rw [if_pos c2] at q
            exact ⟨.str _, H, I, ⟨_, rfl⟩, q⟩
          · rename_i c2
            rw [if_neg c2] at q
            refine ⟨?_, .str _, H, I.tok _, ⟨_, rfl⟩, q⟩
            show ((List.replicate k.toNat a.cps).foldl (· ++ ·) #[]).size ≤ sizeLine
            rw [rep_size]
            exact Nat.le_trans (by rw [Nat.mul_comm]; exact l3) szL_le
    · exact g.elim
  · rename_i k _ _
    split at g
    · rename_i a e1
      split at g
      · rename_i hl
        simp only [Bool.and_eq_true, decide_eq_true_eq] at hl
        obtain ⟨p, vs, rfl, k1, q1⟩ := lstOf_rel S r1 e1
        refine op_rep pins s σ H _ _ v u Q I rx ry ⟨p, k, vs, rfl, r2, k1, hl.1.1, hl.1.2, ?_, Good.new_vl S (flat_rep q1 _) g⟩
        rw [← q1.length]
        exact Nat.le_trans hl.2 szL_le
      · exact g.elim
    · exact g.elim
  · exact g.elim
theorem or_fdiv : OpR X (binaryOp .FloorDiv) (rP2 X.K .fdiv) := fun pins s σ H x y v u Q I rx ry h => by
  obtain ⟨ad, st, w1, w2, E, S, r1, r2, g⟩ := h
  obtain ⟨i, j, rfl, rfl, c, g⟩ := good_int2 g
  simp only [divOk, Bool.and_eq_true, decide_eq_true_eq] at c
  exact op_fdivW pins s σ H x y v u Q I rx ry ⟨i, j, r1, r2, ⟨c.1, by omega⟩, g.ok_ S rfl⟩
theorem or_mod : OpR X (binaryOp .Mod) (rP2 X.K .mod) := fun pins s σ H x y v u Q I rx ry h => by
  obtain ⟨ad, st, w1, w2, E, S, r1, r2, g⟩ := h
  obtain ⟨i, j, rfl, rfl, c, g⟩ := good_int2 g
  simp only [decide_eq_true_eq] at c
  refine op_modN pins s σ H x y v u Q I rx ry ⟨i, j, r1, r2, by omega, ?_⟩
  have e : i.fmod j = i % j := Int.fmod_eq_emod_of_nonneg i (by omega)
  show Q (.int (i.fmod j)) H
  rw [e]
  exact g.ok_ S rfl
theorem or_pow : OpR X (binaryOp .Pow) (rP2 X.K .pow) := fun pins s σ H x y v u Q I rx ry h => by
  obtain ⟨ad, st, w1, w2, E, S, r1, r2, g⟩ := h
  obtain ⟨i, j, rfl, rfl, c, g⟩ := good_int2 g
  simp only [decide_eq_true_eq] at c
  exact op_pow pins s σ H x y v u Q I rx ry ⟨i, j, r1, r2, ⟨c.1, by omega, by omega⟩, g.ok_ S rfl⟩
theorem or_neg : UnR X (unaryOp .USub) (rP1 X.K .neg) := fun pins s σ H x v Q I rx h => by
  obtain ⟨ad, st, w1, E, S, r1, g⟩ := h
  obtain ⟨i, rfl, g⟩ := good_int1 g
  exact un_neg pins s σ H x v Q I rx ⟨i, r1, g.ok_ S rfl⟩
theorem or_lt : OpR X (compareOp .Lt) (rP2 X.K .lt) := fun pins s σ H x y v u Q I rx ry h => by
  obtain ⟨ad, st, w1, w2, E, S, r1, r2, g⟩ := h
  obtain ⟨i, j, rfl, rfl, _, g⟩ := good_int2 g
  exact op_lt pins s σ H x y v u Q I rx ry ⟨i, j, r1, r2, g.ok_ S rfl⟩
theorem or_le : OpR X (compareOp .LtE) (rP2 X.K .le) := fun pins s σ H x y v u Q I rx ry h => by
  obtain ⟨ad, st, w1, w2, E, S, r1, r2, g⟩ := h
  obtain ⟨i, j, rfl, rfl, _, g⟩ := good_int2 g
  exact op_le pins s σ H x y v u Q I rx ry ⟨i, j, r1, r2, g.ok_ S rfl⟩
theorem or_gt : OpR X (compareOp .Gt) (rP2 X.K .gt) := fun pins s σ H x y v u Q I rx ry h => by
  obtain ⟨ad, st, w1, w2, E, S, r1, r2, g⟩ := h
  obtain ⟨i, j, rfl, rfl, _, g⟩ := good_int2 g
  exact op_gt pins s σ H x y v u Q I rx ry ⟨i, j, r1, r2, g.ok_ S rfl⟩
theorem or_ge : OpR X (compareOp .GtE) (rP2 X.K .ge) := fun pins s σ H x y v u Q I rx ry h => by
  obtain ⟨ad, st, w1, w2, E, S, r1, r2, g⟩ := h
  obtain ⟨i, j, rfl, rfl, _, g⟩ := good_int2 g
  exact op_ge pins s σ H x y v u Q I rx ry ⟨i, j, r1, r2, g.ok_ S rfl⟩
theorem good_eq {neg : Bool} {w1 w2 : W} (h : Good K (rV K) ad H (pEq neg w1 w2 st) Q E) : ∃ d e, toD st dep w1 = some d ∧ toD st dep w2 = some e ∧ SeqAt.shaped d = true ∧ SeqAt.shaped e = true ∧ Good K (rV K) ad H (.ok (.bl (if neg then !PyData.eqv d e else PyData.eqv d e)) st) Q E := by
  unfold pEq at h
  split at h
  · split at h
    · rename_i c
      simp only [Bool.and_eq_true] at c
      exact ⟨_, _, by assumption, by assumption, c.1, c.2, h⟩
    · exact h.elim
  · exact h.elim
theorem or_eq (hu : X.A.units + 64 < cLine) : OpR X (compareOp .Eq) (rP2 X.K .eq) := fun pins s σ H x y v u Q I rx ry h => by
  obtain ⟨ad, st, w1, w2, E, S, r1, r2, g⟩ := h
  obtain ⟨d, e, h1, h2, c1, c2, g⟩ := good_eq g
  exact op_eqD hu pins s σ H x y v u Q I rx ry ⟨d, e, toD_rel S _ r1 h1, toD_rel S _ r2 h2, c1, c2, g.ok_ S rfl⟩
theorem or_ne (hu : X.A.units + 64 < cLine) : OpR X (compareOp .NotEq) (rP2 X.K .ne) := fun pins s σ H x y v u Q I rx ry h => by
  obtain ⟨ad, st, w1, w2, E, S, r1, r2, g⟩ := h
  obtain ⟨d, e, h1, h2, c1, c2, g⟩ := good_eq g
  exact op_neD hu pins s σ H x y v u Q I rx ry ⟨d, e, toD_rel S _ r1 h1, toD_rel S _ r2 h2, c1, c2, g.ok_ S rfl⟩
def isNonW : W → Bool
  | .non => true
  | _ => false
theorem non_rel {w : W} {v : V} (r : RV K ad H w v) : decide (v = .non) = isNonW w := by
  cases w with
  | tup xs => obtain ⟨a, vs, rfl, _⟩ := r; rfl
  | fzl xs => obtain ⟨a, vs, rfl, _⟩ := r; rfl
  | vl xs => obtain ⟨a, vs, rfl, _⟩ := r; rfl
  | obj C ns xs => obtain ⟨a, dx, vs, rfl, _⟩ := r; rfl
  | ref i => obtain ⟨a, _, rfl⟩ := r; rfl
  | glo i => obtain ⟨_, rfl⟩ := r; rfl
  | _ => rw [show v = _ from r]; rfl
theorem or_isN : OpR X (compareOp .Is) (fun x y H Q => y = .non ∧ rP1 X.K .isN x H Q) := fun pins s σ H x y v u Q I rx ry h => by
  obtain ⟨e, ad, st, w1, E, S, r1, g⟩ := h
  refine op_isN pins s σ H x y v u Q I rx ry ⟨e, ?_⟩
  rw [non_rel r1]
  change Good _ _ _ _ (pIsN false w1 st) _ _ at g
  unfold pIsN at g
  cases w1 <;> exact g.ok_ S rfl
theorem or_isnotN : OpR X (compareOp .IsNot) (fun x y H Q => y = .non ∧ rP1 X.K .isnotN x H Q) := fun pins s σ H x y v u Q I rx ry h => by
  obtain ⟨e, ad, st, w1, E, S, r1, g⟩ := h
  refine op_notN pins s σ H x y v u Q I rx ry ⟨e, ?_⟩
  rw [non_rel r1]
  change Good _ _ _ _ (pIsN true w1 st) _ _ at g
  unfold pIsN at g
  cases w1 <;> exact g.ok_ S rfl
theorem or_in (hu : X.A.units + 65 < cLine) : OpR X (compareOp .In) (rP2 X.K .in_) := fun pins s σ H x y v u Q I rx ry h => by
  obtain ⟨ad, st, w1, w2, E, S, r1, r2, g⟩ := h
  change Good _ _ _ _ (pIn false w1 w2 st) _ _ at g
  unfold pIn at g
  split at g
  · rename_i xs
    split at g
    · rename_i c
      simp only [Bool.and_eq_true] at c
      obtain ⟨a, vs, rfl, h1, h2⟩ := r2
      refine op_in_seq pins s σ H x _ v u Q I rx ry ⟨a, vs, rfl, .inr h1, flat_rel r1 c.1, flats_rel h2 c.2, ?_⟩
      rw [inV_rel r1 c.1 h2 c.2]
      exact g.ok_ S rfl
    · exact g.elim
  · rename_i a b
    exact op_in_str pins s σ H x y v u Q I rx ry ⟨a, b, r1, r2, g.ok_ S rfl⟩
  · split at g
    · rename_i d ds e1 e2
      split at g
      · rename_i c
        simp only [Bool.and_eq_true] at c
        exact op_inD hu pins s σ H x y v u Q I rx ry ⟨d, ds, toD_rel S _ r1 e1, toD_rel S _ r2 e2, c.1, c.2, g.ok_ S rfl⟩
      · exact g.elim
    · exact g.elim
theorem or_notin (hu : X.A.units + 65 < cLine) : OpR X (compareOp .NotIn) (rP2 X.K .notin) := fun pins s σ H x y v u Q I rx ry h => by
  obtain ⟨ad, st, w1, w2, E, S, r1, r2, g⟩ := h
  change Good _ _ _ _ (pIn true w1 w2 st) _ _ at g
  unfold pIn at g
  split at g
  · rename_i xs
    split at g
    · rename_i c
      simp only [Bool.and_eq_true] at c
      obtain ⟨a, vs, rfl, h1, h2⟩ := r2
      refine op_notIn_seq pins s σ H x _ v u Q I rx ry ⟨a, vs, rfl, .inr h1, flat_rel r1 c.1, flats_rel h2 c.2, ?_⟩
      rw [inV_rel r1 c.1 h2 c.2]
      exact g.ok_ S rfl
    · exact g.elim
  · rename_i a b
    exact op_notIn_str pins s σ H x y v u Q I rx ry ⟨a, b, r1, r2, g.ok_ S rfl⟩
  · split at g
    · rename_i d ds e1 e2
      split at g
      · rename_i c
        simp only [Bool.and_eq_true] at c
        exact op_notInD hu pins s σ H x y v u Q I rx ry ⟨d, ds, toD_rel S _ r1 e1, toD_rel S _ r2 e2, c.1, c.2, g.ok_ S rfl⟩
      · exact g.elim
    · exact g.elim
theorem atI_rel {ws : List W} {vs : List V} {i : Int} {w : W} (r : RVs K ad H ws vs) (h : atI ws i = some w) : ∃ v, atI vs i = some v ∧ RV K ad H w v := by
  unfold atI at h ⊢
  rw [← r.length]
  cases e : ixN ws.length i with
  | none => rw [e] at h; cases h
  | some j =>
    rw [e] at h
    exact r.get h
theorem or_ix : IxR X (rP2 X.K .ix) := fun value slice pins s σ H x y v u Q I rx ry h hs => by
  obtain ⟨ad, st, w1, w2, E, S, r1, r2, g⟩ := h
  change Good _ _ _ _ (pIx w1 w2 st) _ _ at g
  unfold pIx at g
  split at g
  · rename_i z i
    split at g
    · rename_i hl
      split at g
      · rename_i c hc
        exact ix_str value slice pins s σ H x y v u Q I rx ry ⟨z, i, c, r1, r2, Nat.le_trans hl szL_le, hc, g.ok_ S rfl⟩ hs
      · exact g.elim
    · exact g.elim
  · rename_i i hnz
    split at g
    · rename_i xs hx
      split at g
      · rename_i w hw
        obtain ⟨a, vs, rfl, q, k⟩ := items_rel S r1 hx
        obtain ⟨z, hz, rz⟩ := atI_rel q hw
        rcases k with ⟨k, _⟩ | ⟨k, _⟩
        · exact ix_list value slice pins s σ H _ y v u Q I rx ry ⟨a, vs, i, z, rfl, r2, k, hz, g.ok_ S rz⟩ hs
        · exact ix_tup value slice pins s σ H _ y v u Q I rx ry ⟨a, vs, i, z, rfl, r2, k, hz, g.ok_ S rz⟩ hs
      · exact g.elim
    · exact g.elim
  · exact g.elim
theorem cut_rel {ws : List W} {vs : List V} (lo hi : Option Int) (r : RVs K ad H ws vs) : RVs K ad H (cutW ws lo hi) (cutV vs lo hi) := by
  unfold cutW cutV
  rw [← r.length]
  exact (r.drop _).take _
theorem or_cut : SlR X (fun x lo hi H Q => ∃ ad st w E, SimH X.K ad st H ∧ RV X.K ad H w x ∧ Good X.K (rV X.K) ad H (pCut lo hi w st) Q E) := fun pins s σ H x v vl vu lo hi sl Q I rx hs pl pu h => by
  obtain ⟨ad, st, w, E, S, r, g⟩ := h
  unfold pCut at g
  split at g
  · rename_i z
    split at g
    · rename_i hl
      exact sl_str pins s σ H x v vl vu lo hi sl Q I rx hs pl pu ⟨z, r, Nat.le_trans hl szL_le, g.ok_ S rfl⟩
    · exact g.elim
  · rename_i xs
    obtain ⟨a, vs, rfl, h1, h2⟩ := r
    refine sl_tupA pins s σ H _ v vl vu lo hi sl Q I rx hs pl pu ⟨a, vs, rfl, h1, fun c => ?_, fun _ => Good.new_tup S (cut_rel lo hi h2) g⟩
    have e : cutW xs lo hi = xs := by
      unfold cutW
      rw [h2.length, c.1, c.2]
      rw [List.drop_zero, Nat.sub_zero, ← h2.length, List.take_length]
    rw [e] at g
    exact g.ok_ S ⟨a, vs, rfl, h1, h2⟩
  · rename_i i
    split at g
    · rename_i xs hx
      obtain ⟨a, h1, rfl⟩ := r
      obtain ⟨vs, k1, q1⟩ := S.obj _ _ _ h1 hx
      exact sl_list pins s σ H _ v vl vu lo hi sl Q I rx hs pl pu ⟨a, vs, rfl, SqL.of k1, Good.new_vl S (cut_rel lo hi q1) g⟩
    · exact g.elim
  · rename_i xs
    obtain ⟨a, vs, rfl, h1, h2⟩ := r
    exact sl_list pins s σ H _ v vl vu lo hi sl Q I rx hs pl pu ⟨a, vs, rfl, h1.sq, Good.new_vl S (cut_rel lo hi h2) g⟩
  · rename_i xs
    obtain ⟨a, vs, rfl, h1, _, h2⟩ := r
    exact sl_list pins s σ H _ v vl vu lo hi sl Q I rx hs pl pu ⟨a, vs, rfl, SqL.of h1, Good.new_vl S (cut_rel lo hi h2) g⟩
  · exact g.elim
theorem rvs1 {ws : List W} {v : V} (r : RVs K ad H ws [v]) : ∃ w, ws = [w] ∧ RV K ad H w v := by
  cases ws with
  | nil => cases r
  | cons w ws =>
    obtain ⟨x, t, e, r1, r2⟩ := r
    cases e
    have := r2.length
    cases ws with
    | nil => exact ⟨w, rfl, r1⟩
    | cons _ _ => simp at this
theorem rvs_one {w : W} {vs : List V} (r : RVs K ad H [w] vs) : ∃ v, vs = [v] ∧ RV K ad H w v := by
  obtain ⟨x, t, rfl, r1, r2⟩ := r
  rw [show t = [] from r2]
  exact ⟨x, rfl, r1⟩
theorem rvs_two {w u : W} {vs : List V} (r : RVs K ad H [w, u] vs) : ∃ v x, vs = [v, x] ∧ RV K ad H w v ∧ RV K ad H u x := by
  obtain ⟨x, t, rfl, r1, r2⟩ := r
  obtain ⟨y, rfl, r3⟩ := rvs_one r2
  exact ⟨x, y, rfl, r1, r3⟩
/-- the prim's arguments by number -/
theorem good_one {o : Op} {ws : List W} (ho : ∀ us st, (∀ a, us ≠ [a]) → prim o us st = .stuck) (g : Good K (rV K) ad H (prim o ws st) Q E) : ∃ a, ws = [a] := by
  cases ws with
  | nil => rw [ho [] st (fun a z => by cases z)] at g; exact g.elim
  | cons a r =>
    cases r with
    | nil => exact ⟨a, rfl⟩
    | cons b r => rw [ho (a :: b :: r) st (fun a z => by cases z)] at g; exact g.elim
theorem good_two {o : Op} {ws : List W} (ho : ∀ us st, (∀ a b, us ≠ [a, b]) → prim o us st = .stuck) (g : Good K (rV K) ad H (prim o ws st) Q E) : ∃ a b, ws = [a, b] := by
  cases ws with
  | nil => rw [ho [] st (fun a b z => by cases z)] at g; exact g.elim
  | cons a r =>
    cases r with
    | nil => rw [ho [a] st (fun a b z => by cases z)] at g; exact g.elim
    | cons b r =>
      cases r with
      | nil => exact ⟨a, b, rfl⟩
      | cons c r => rw [ho (a :: b :: c :: r) st (fun a b z => by cases z)] at g; exact g.elim
theorem or_len : CallR X (.builtin "len") (rPn X.K .len) := fun pins s σ H xs us Q I rs h => by
  obtain ⟨ad, st, ws, E, S, rr, g⟩ := h
  obtain ⟨w, rfl⟩ := good_one (o := .len) (fun us st h => by unfold prim; split <;> simp_all) g
  obtain ⟨x, rfl, r⟩ := rvs_one rr
  change Good _ _ _ _ (pLen w st) _ _ at g
  unfold pLen at g
  split at g
  · split at g
    · rename_i hl
      obtain rfl : x = _ := r
      exact call_len pins s σ H _ us Q I rs ⟨.str _, _, rfl, ⟨Nat.le_trans hl szL_le, rfl⟩, g.ok_ S rfl⟩
    · exact g.elim
  · split at g
    · rename_i ys hy
      obtain ⟨a, vs, rfl, q, k⟩ := items_rel S r hy
      rw [q.length] at g
      rcases k with ⟨k, _⟩ | ⟨k, _⟩
      · exact call_len pins s σ H _ us Q I rs ⟨.ref a, vs.length, rfl, .inl ⟨vs, k, rfl⟩, g.ok_ S rfl⟩
      · exact call_len pins s σ H _ us Q I rs ⟨.ref a, vs.length, rfl, .inr ⟨vs, k, rfl⟩, g.ok_ S rfl⟩
    · exact g.elim
theorem or_abs : CallR X (.builtin "abs") (rPn X.K .abs) := fun pins s σ H xs us Q I rs h => by
  obtain ⟨ad, st, ws, E, S, rr, g⟩ := h
  obtain ⟨w, rfl⟩ := good_one (o := .abs) (fun us st h => by unfold prim; split <;> simp_all) g
  obtain ⟨x, rfl, r⟩ := rvs_one rr
  obtain ⟨i, rfl, g⟩ := good_int1 g
  obtain rfl : x = _ := r
  exact call_abs pins s σ H _ us Q I rs ⟨i, rfl, g.ok_ S rfl⟩
theorem or_int : CallR X (.type "int") (rPn X.K .int) := fun pins s σ H xs us Q I rs h => by
  obtain ⟨ad, st, ws, E, S, rr, g⟩ := h
  obtain ⟨w, rfl⟩ := good_one (o := .int) (fun us st h => by unfold prim; split <;> simp_all) g
  obtain ⟨x, rfl, r⟩ := rvs_one rr
  change Good _ _ _ _ (pToInt w st) _ _ at g
  unfold pToInt at g
  split at g
  · obtain rfl : x = _ := r
    exact call_int1 pins s σ H _ us Q I rs (.inl ⟨_, rfl, g.ok_ S rfl⟩)
  · obtain rfl : x = _ := r
    exact call_int1 pins s σ H _ us Q I rs (.inr ⟨_, rfl, g.ok_ S rfl⟩)
  · exact g.elim
theorem or_max2 (hc : X.calm = true) : CallR X (.builtin "max") (rPn X.K .max2) := fun pins s σ H xs us Q I rs h => by
  obtain ⟨ad, st, ws, E, S, rr, g⟩ := h
  obtain ⟨w, w2, rfl⟩ := good_two (o := .max2) (fun us st h => by unfold prim; split <;> simp_all) g
  obtain ⟨x, y, rfl, r, r2⟩ := rvs_two rr
  obtain ⟨i, j, rfl, rfl, _, g⟩ := good_int2 g
  obtain rfl : x = _ := r
  obtain rfl : y = _ := r2
  exact call_max2 hc pins s σ H _ us Q I rs ⟨i, j, rfl, g.ok_ S rfl⟩
theorem or_min2 (hc : X.calm = true) : CallR X (.builtin "min") (rPn X.K .min2) := fun pins s σ H xs us Q I rs h => by
  obtain ⟨ad, st, ws, E, S, rr, g⟩ := h
  obtain ⟨w, w2, rfl⟩ := good_two (o := .min2) (fun us st h => by unfold prim; split <;> simp_all) g
  obtain ⟨x, y, rfl, r, r2⟩ := rvs_two rr
  obtain ⟨i, j, rfl, rfl, _, g⟩ := good_int2 g
  obtain rfl : x = _ := r
  obtain rfl : y = _ := r2
  exact call_min2 hc pins s σ H _ us Q I rs ⟨i, j, rfl, g.ok_ S rfl⟩
theorem or_divmod : CallR X (.builtin "divmod") (rPn X.K .divmod) := fun pins s σ H xs us Q I rs h => by
  obtain ⟨ad, st, ws, E, S, rr, g⟩ := h
  obtain ⟨w, w2, rfl⟩ := good_two (o := .divmod) (fun us st h => by unfold prim; split <;> simp_all) g
  obtain ⟨x, y, rfl, r, r2⟩ := rvs_two rr
  obtain ⟨i, j, rfl, rfl, c, g⟩ := good_int2 g
  simp only [divOk, Bool.and_eq_true, decide_eq_true_eq] at c
  obtain rfl : x = _ := r
  obtain rfl : y = _ := r2
  exact call_divmodW pins s σ H _ us Q I rs ⟨i, j, rfl, ⟨c.1, PyProof.noPylong_of_log2 (by omega)⟩, Good.new_tup (ws := [.int (i / j), .int (i % j)]) S (RVs.cons rfl (RVs.one rfl)) g⟩
theorem or_sum (hc : X.calm = true) : CallR X (.builtin "sum") (rPn X.K .sum) := fun pins s σ H xs us Q I rs h => by
  obtain ⟨ad, st, ws, E, S, rr, g⟩ := h
  obtain ⟨w, rfl⟩ := good_one (o := .sum) (fun us st h => by unfold prim; split <;> simp_all) g
  obtain ⟨x, rfl, r⟩ := rvs_one rr
  change Good _ _ _ _ (pSum w st) _ _ at g
  unfold pSum at g
  split at g
  · rename_i ys hy
    split at g
    · rename_i ns hn
      obtain ⟨a, vs, rfl, k, q⟩ := lstOf_rel S r hy
      have e := ints_rel q hn
      subst e
      exact cr_sum hc pins s σ H _ us Q I rs ⟨a, ns, rfl, SqL.of k, g.ok_ S rfl⟩
    · exact g.elim
  · exact g.elim
theorem good_bls {f : List Bool → Bool} {w : W} {x : V} (S : SimH K ad st H) (r : RV K ad H w x) (g : Good K (rV K) ad H (pBls f w st) Q E) : ∃ a bs, x = .ref a ∧ SqL K H a (bs.map V.bl) ∧ Q (.bl (f bs)) H := by
  unfold pBls at g
  split at g
  · rename_i ys hy
    split at g
    · rename_i ns hn
      obtain ⟨a, vs, rfl, k, q⟩ := lstOf_rel S r hy
      have e := bls_rel q hn
      subst e
      exact ⟨a, ns, rfl, SqL.of k, g.ok_ S rfl⟩
    · exact g.elim
  · exact g.elim
theorem or_all (hc : X.calm = true) : CallR X (.builtin "all") (rPn X.K .all) := fun pins s σ H xs us Q I rs h => by
  obtain ⟨ad, st, ws, E, S, rr, g⟩ := h
  obtain ⟨w, rfl⟩ := good_one (o := .all) (fun us st h => by unfold prim; split <;> simp_all) g
  obtain ⟨x, rfl, r⟩ := rvs_one rr
  obtain ⟨a, bs, rfl, k, q⟩ := good_bls S r g
  exact cr_all hc pins s σ H _ us Q I rs ⟨a, bs, rfl, k, q⟩
theorem or_any (hc : X.calm = true) : CallR X (.builtin "any") (rPn X.K .any) := fun pins s σ H xs us Q I rs h => by
  obtain ⟨ad, st, ws, E, S, rr, g⟩ := h
  obtain ⟨w, rfl⟩ := good_one (o := .any) (fun us st h => by unfold prim; split <;> simp_all) g
  obtain ⟨x, rfl, r⟩ := rvs_one rr
  obtain ⟨a, bs, rfl, k, q⟩ := good_bls S r g
  exact cr_any hc pins s σ H _ us Q I rs ⟨a, bs, rfl, k, q⟩
theorem or_tuple : CallR X (.type "tuple") (rPn X.K .tuple) := fun pins s σ H xs us Q I rs h => by
  obtain ⟨ad, st, ws, E, S, rr, g⟩ := h
  obtain ⟨w, rfl⟩ := good_one (o := .tuple) (fun us st h => by unfold prim; split <;> simp_all) g
  obtain ⟨x, rfl, r⟩ := rvs_one rr
  change Good _ _ _ _ (match items st w with | some xs => R.ok (W.tup xs) st | none => R.stuck) _ _ at g
  split at g
  · rename_i ys hy
    obtain ⟨a, vs, rfl, q, k⟩ := items_rel S r hy
    refine call_tuple_of pins s σ H _ us Q I rs ⟨a, vs, rfl, ?_⟩
    rcases k with ⟨k, _⟩ | ⟨k, _⟩
    · exact .inl ⟨k, Good.new_tup S q g⟩
    · exact .inr ⟨k, g.ok_ S ⟨a, vs, rfl, k, q⟩⟩
  · exact g.elim
theorem or_list {m : Bool} : CallR X (.type "list") (rPn X.K (.list m)) := fun pins s σ H xs us Q I rs h => by
  obtain ⟨ad, st, ws, E, S, rr, g⟩ := h
  obtain ⟨w, rfl⟩ := good_one (o := .list m) (fun us st h => by unfold prim; split <;> simp_all) g
  obtain ⟨x, rfl, r⟩ := rvs_one rr
  change Good _ _ _ _ (match items st w with | some xs => mkL m xs st | none => R.stuck) _ _ at g
  split at g
  · rename_i ys hy
    obtain ⟨a, vs, rfl, q, k⟩ := items_rel S r hy
    refine call_list_of pins s σ H _ us Q I rs ⟨a, vs, rfl, ?_, Good.new_mk S q g⟩
    rcases k with ⟨k, _⟩ | ⟨k, _⟩
    · exact .inl k
    · exact .inr k
  · exact g.elim
theorem or_str : CallR X (.type "str") (rPn X.K .str) := fun pins s σ H xs us Q I rs h => by
  obtain ⟨ad, st, ws, E, S, rr, g⟩ := h
  obtain ⟨w, rfl⟩ := good_one (o := .str) (fun us st h => by unfold prim; split <;> simp_all) g
  obtain ⟨x, rfl, r⟩ := rvs_one rr
  change Good _ _ _ _ (pFmt w st) _ _ at g
  unfold pFmt at g
  split at g
  · split at g
    · obtain rfl : x = _ := r
      exact SkE.call_str_str pins s σ H _ us Q I rs ⟨_, rfl, g.ok_ S rfl⟩
    · exact g.elim
  · split at g
    · rename_i hl
      obtain rfl : x = _ := r
      exact call_str_int pins s σ H _ us Q I rs ⟨_, rfl, hl, g.ok_ S rfl⟩
    · exact g.elim
  · exact g.elim
/-! ### methods of lists and texts: the receiver, one argument -/
def rPm (K : PySem.W.Frag) (o : Op) : V → List V → Hp → VK → Prop := fun x xs H Q => rPn K o (x :: xs) H Q
theorem or_append : MtR X "list.append" (rPm X.K .append) := fun pins s σ H x xs v us Q I rx rs h => by
  obtain ⟨ad, st, ws, E, S, rr, g⟩ := h
  obtain ⟨w, w2, rfl⟩ := good_two (o := .append) (fun us st h => by unfold prim; split <;> simp_all) g
  obtain ⟨y, z, e, r, r2⟩ := rvs_two rr
  cases e
  change Good _ _ _ _ (pAppend w w2 st) _ _ at g
  unfold pAppend at g
  split at g
  · rename_i i
    split at g
    · rename_i ys hy
      split at g
      · rename_i hl
        obtain ⟨a, h1, rfl⟩ := r
        obtain ⟨vs, k1, q1⟩ := S.obj _ _ _ h1 hy
        refine mt_append pins s σ H _ _ v us Q I rx rs ⟨a, vs, z, rfl, rfl, k1, ?_, ?_⟩
        · rw [← q1.length]; exact Nat.lt_of_lt_of_le hl szL_le
        · have x : Ext ad ad H (upd H a (.lst (vs ++ [z]))) := Ext.write h1
          exact g ad _ .non x (S.write h1 ⟨_, upd_same, (q1.append (RVs.one r2)).ext S x⟩) rfl
      · exact g.elim
    · exact g.elim
  · exact g.elim
theorem or_extend : MtR X "list.extend" (rPm X.K .extend) := fun pins s σ H x xs v us Q I rx rs h => by
  obtain ⟨ad, st, ws, E, S, rr, g⟩ := h
  obtain ⟨w, w2, rfl⟩ := good_two (o := .extend) (fun us st h => by unfold prim; split <;> simp_all) g
  obtain ⟨y, z, e, r, r2⟩ := rvs_two rr
  cases e
  change Good _ _ _ _ (pExtend w w2 st) _ _ at g
  unfold pExtend at g
  split at g
  · rename_i i
    split at g
    · rename_i ys zs hy hz
      split at g
      · rename_i hl
        obtain ⟨a, h1, rfl⟩ := r
        obtain ⟨vs, k1, q1⟩ := S.obj _ _ _ h1 hy
        obtain ⟨b, us', rfl, k2, q2⟩ := lstOf_rel S r2 hz
        refine mt_extend pins s σ H _ _ v us Q I rx rs ⟨a, b, vs, us', rfl, rfl, k1, k2, ?_, ?_⟩
        · rw [← q1.length, ← q2.length]; exact Nat.le_trans hl szL_le
        · have x : Ext ad ad H (upd H a (.lst (vs ++ us'))) := Ext.write h1
          exact g ad _ .non x (S.write h1 ⟨_, upd_same, (q1.append q2).ext S x⟩) rfl
      · exact g.elim
    · exact g.elim
  · exact g.elim
theorem or_split : MtR X "str.split" (rPm X.K .split) := fun pins s σ H x xs v us Q I rx rs h => by
  obtain ⟨ad, st, ws, E, S, rr, g⟩ := h
  obtain ⟨w, w2, rfl⟩ := good_two (o := .split) (fun us st h => by unfold prim; split <;> simp_all) g
  obtain ⟨y, z, e, r, r2⟩ := rvs_two rr
  cases e
  change Good _ _ _ _ (pSplit w w2 st) _ _ at g
  unfold pSplit at g
  split at g
  · rename_i a b
    split at g
    · rename_i hl
      obtain rfl : x = _ := r
      obtain rfl : z = _ := r2
      refine mt_split pins s σ H _ _ v us Q I rx rs ⟨a, b, rfl, rfl, hl.1, ?_, Good.new_vl S (of_strs _) g⟩
      have h2 : szL + 2 ≤ sizeLine := by decide
      omega
    · exact g.elim
  · exact g.elim
theorem or_join : MtR X "str.join" (rPm X.K .join) := fun pins s σ H x xs v us Q I rx rs h => by
  obtain ⟨ad, st, ws, E, S, rr, g⟩ := h
  obtain ⟨w, w2, rfl⟩ := good_two (o := .join) (fun us st h => by unfold prim; split <;> simp_all) g
  obtain ⟨y, z, e, r, r2⟩ := rvs_two rr
  cases e
  change Good _ _ _ _ (pJoin w w2 st) _ _ at g
  unfold pJoin at g
  split at g
  · rename_i a
    split at g
    · rename_i ys hy
      split at g
      · rename_i ss hs
        split at g
        · rename_i hl
          obtain rfl : x = _ := r
          obtain ⟨p, vs, rfl, q, k⟩ := items_rel S r2 hy
          have e := strs_rel q hs
          subst e
          refine mt_join pins s σ H _ _ v us Q I rx rs ⟨a, p, ss, rfl, rfl, ?_, Nat.le_trans hl (by decide), g.ok_ S rfl⟩
          rcases k with ⟨k, _⟩ | ⟨k, _⟩
          · exact .inl k
          · exact .inr k
        · exact g.elim
      · exact g.elim
    · exact g.elim
  · exact g.elim
theorem or_sindex (hc : X.calm = true) {WW : WX} (tk : Takes X WW) : MtS X "str.index" (fun _ x xs H Q => rPm X.K .sindex x xs H Q) := fun pins s σ H x xs v us Q I rx rs h => by
  obtain ⟨ad, st, ws, E, S, rr, g⟩ := h
  obtain ⟨w, w2, rfl⟩ := good_two (o := .sindex) (fun us st h => by unfold prim; split <;> simp_all) g
  obtain ⟨y, z, e, r, r2⟩ := rvs_two rr
  cases e
  change Good _ _ _ _ (pSindex w w2 st) _ _ at g
  unfold pSindex at g
  split at g
  · split at g
    · rename_i k hk
      obtain rfl : x = _ := r
      obtain rfl : z = _ := r2
      refine mt_indexX hc tk pins s σ H _ _ v us Q I rx rs ⟨_, _, rfl, rfl, fun k' hk' => ?_, fun hn => ?_⟩
      · rw [hk] at hk'
        cases hk'
        exact g.ok_ S rfl
      · rw [hk] at hn
        cases hn
    · exact g.elim
  · exact g.elim
end
end Zv

set_option maxRecDepth 100000
set_option maxHeartbeats 4000000
/-! Ev4: readings of expressions. -/
namespace Zv
open PySem PySem.Spec PyProof.Rows L2
/-- the slots -/
structure SimS (K : PySem.W.Frag) (ad : Ad) (H : Hp) (env : En) (σ : L2.St) : Prop where
  len : env.length = σ.length
  at_ : ∀ (i : Nat) (w : W), env[i]? = some (some w) → ∃ v, σ[i]? = some (some v) ∧ RV K ad H w v
theorem SimS.ext {K : PySem.W.Frag} {ad ad' : Ad} {H H' : Hp} {env : En} {σ : L2.St} {st : Sto} (s : SimS K ad H env σ) (S : SimH K ad st H) (x : Ext ad ad' H H') : SimS K ad' H' env σ :=
  ⟨s.len, fun i w e => let ⟨v, h1, h2⟩ := s.at_ i w e; ⟨v, h1, h2.ext S x⟩⟩
theorem SimS.set {K : PySem.W.Frag} {ad : Ad} {H : Hp} {env : En} {σ : L2.St} (s : SimS K ad H env σ) {w : W} {v : V} (r : RV K ad H w v) (i : Nat) : SimS K ad H (env.set i (some w)) (σ.set i (some v)) := by
  refine ⟨by simp [s.len], fun j u e => ?_⟩
  by_cases h : i = j
  · subst h
    by_cases hi : i < env.length
    · rw [List.getElem?_set_self hi] at e
      cases e
      exact ⟨v, List.getElem?_set_self (by rw [← s.len]; exact hi), r⟩
    · rw [List.getElem?_eq_none (by simp; omega)] at e
      cases e
  · rw [List.getElem?_set_ne h] at e ⊢
    exact s.at_ j u e
theorem SimS.wipe {K : PySem.W.Frag} {ad : Ad} {H : Hp} {env : En} {σ : L2.St} (s : SimS K ad H env σ) : ∀ vs : List Nat, SimS K ad H (wipeE env vs) (L2.wipe σ vs)
  | [] => s
  | v :: vs => by
    have ih := s.wipe vs
    refine ⟨by simp [wipeE, L2.wipe, ih.len], fun j u e => ?_⟩
    simp only [wipeE] at e
    by_cases h : v = j
    · subst h
      by_cases hi : v < (wipeE env vs).length
      · rw [List.getElem?_set_self hi] at e
        cases e
      · rw [List.getElem?_eq_none (by simp; omega)] at e
        cases e
    · rw [List.getElem?_set_ne h] at e
      obtain ⟨x, h1, h2⟩ := ih.at_ j u e
      refine ⟨x, ?_, h2⟩
      simp only [L2.wipe]
      rw [List.getElem?_set_ne h]
      exact h1
theorem rv_bl {K : PySem.W.Frag} {ad : Ad} {H : Hp} (b : Bool) : RV K ad H (.bl b) (.bl b) := rfl
section
variable (K : PySem.W.Frag) (WX0 : WX)
/-- the reading of a run m -/
def rdM {α β : Type} (rel : Ad → Hp → α → β → Prop) (m : En → Sto → R α) : L2.St → Hp → (β → Hp → Prop) → Prop := fun σ H Q =>
  ∃ ad st env, SimH K ad st H ∧ SimS K ad H env σ ∧ Good K rel ad H (m env st) Q (fun cls d H' => WX0 cls d σ H')
abbrev rdE (m : En → Sto → R W) : TE := rdM K WX0 (rV K) m
abbrev rdA (m : En → Sto → R (List W)) : TA := rdM K WX0 (rVs K) m
end
section
variable {X : Cx} {WW : WX} {e a b c : Expr}
theorem _root_.L2.PE.imp {t t' : TE} (h : PE X e t) (i : ∀ σ H Q, t' σ H Q → t σ H Q) : PE X e t' := ⟨fun pins s σ H Q I q => h.run pins s σ H Q I (i σ H Q q)⟩
theorem _root_.L2.PT.imp {t t' : TT} (h : PT X e t) (i : ∀ σ H Q, t' σ H Q → t σ H Q) : PT X e t' := ⟨fun pins s σ H Q I q => h.run pins s σ H Q I (i σ H Q q)⟩
theorem _root_.L2.PA.imp {es : List Expr} {t t' : TA} (h : PA X es t) (i : ∀ σ H Q, t' σ H Q → t σ H Q) : PA X es t' := ⟨fun pos pins s σ H Q I q => h.run pos pins s σ H Q I (i σ H Q q)⟩
theorem _root_.L2.PS.imp {st : Stmt} {t t' : TS} (h : PS X st t) (i : ∀ D σ H, t' D σ H → t D σ H) : PS X st t' := ⟨fun pins s σ H D I q => h.run pins s σ H D I (i D σ H q)⟩
theorem _root_.L2.PSs.imp {st : List Stmt} {t t' : TS} (h : PSs X st t) (i : ∀ D σ H, t' D σ H → t D σ H) : PSs X st t' := ⟨fun pins s σ H D I q => h.run pins s σ H D I (i D σ H q)⟩
/-- a run in two parts: the first's reading, then the second's -/
theorem rd_bind {α β γ δ : Type} {K : PySem.W.Frag} {rel : Ad → Hp → α → β → Prop} {rel' : Ad → Hp → γ → δ → Prop} {m : En → Sto → R α} {f : En → α → Sto → R γ} {σ : L2.St} {H : Hp} {Q : δ → Hp → Prop}
    (h : rdM K WW rel' (fun env st => (m env st).bind (f env)) σ H Q) :
    rdM K WW rel m σ H (fun v H1 => ∃ a ad env st, SimH K ad st H1 ∧ SimS K ad H1 env σ ∧ rel ad H1 a v ∧ Good K rel' ad H1 (f env a st) Q (fun cls d H' => WW cls d σ H')) := by
  obtain ⟨ad, st, env, S, s, g⟩ := h
  refine ⟨ad, st, env, S, s, (Good.step (rel := rel) g).mono fun v H1 q => ?_⟩
  obtain ⟨a, ad1, st1, _, x, S1, r, g1⟩ := q
  exact ⟨a, ad1, env, st1, S1, s.ext S x, r, g1⟩
/-- names, constants -/
theorem z_var {i : Nat} {x : Str} {pos : Pos} {G : Prg} {cl : Cl} (hN : X.N[i]? = some x) (hv : Vis X.env.scope x) (hd : (x == ("__debug__" : Str)) = false) (hcd : (x == ("__classdict__" : Str)) = false) :
    PE X (.Name x pos) (rdE X.K WW (ev G cl (.var i))) := (pe_var hN hv hd hcd).imp fun σ H Q h => by
  obtain ⟨ad, st, env, S, s, g⟩ := h
  simp only [ev] at g
  split at g
  · rename_i w hw
    obtain ⟨v, h1, h2⟩ := s.at_ i w hw
    exact ⟨v, h1, g.ok_ S h2⟩
  · exact g.elim
theorem z_con {t : TE} {w : W} {v : V} {G : Prg} {cl : Cl} (h : PE X e (tC v)) (r : ∀ ad H, RV X.K ad H w v) : PE X e (rdE X.K WW (ev G cl (.con w))) := h.imp fun σ H Q h => by
  obtain ⟨ad, st, env, S, s, g⟩ := h
  exact g.ok_ S (r ad H)
theorem z_glo {x : Str} {w : W} {v : V} {u : Value} {pos : Pos} {G : Prg} {cl : Cl} (hc : G.con x = some w) (hg : Gl X x) (hm : X.mg x = some u) (rv : RelV v u) (r : ∀ ad H, RV X.K ad H w v) (hd : (x == ("__debug__" : Str)) = false) :
    PE X (.Name x pos) (rdE X.K WW (ev G cl (.glo x))) := (pe_glob hg hm rv hd).imp fun σ H Q h => by
  obtain ⟨ad, st, env, S, s, g⟩ := h
  simp only [ev, hc] at g
  exact g.ok_ S (r ad H)
/-- two operands -/
theorem rd_two {K : PySem.W.Frag} {ma mb : En → Sto → R W} {o : Op} {σ : L2.St} {H : Hp} {Q : VK} (h : rdE K WW (fun env st => (ma env st).bind fun x st1 => (mb env st1).bind fun y st2 => prim o [x, y] st2) σ H Q) :
    tOp (rP2 K o) (rdE K WW ma) (rdE K WW mb) σ H Q := by
  obtain ⟨ad0, st0, env0, S0, s0, g0⟩ := rd_bind (rel := rV K) h
  refine ⟨ad0, st0, env0, S0, s0, g0.mono fun x H1 q => ?_⟩
  obtain ⟨wx, ad, env, st, S, s, rx, g⟩ := q
  refine ⟨ad, st, env, S, s, (Good.step (rel := rV K) g).mono fun y H2 q2 => ?_⟩
  obtain ⟨wy, ad1, st1, _, x1, S1, ry, g1⟩ := q2
  exact ⟨ad1, st1, wx, wy, _, S1, rx.ext S x1, ry, g1⟩
theorem evs_two {G : Prg} {cl : Cl} {o : Op} {ca cb : Ex} {env : En} {st : Sto} : ev G cl (.op o [ca, cb]) env st = (ev G cl ca env st).bind fun x st1 => (ev G cl cb env st1).bind fun y st2 => prim o [x, y] st2 := by
  simp only [ev, evs]
  cases ev G cl ca env st with
  | ok w st1 =>
    simp only [R.bind]
    cases ev G cl cb env st1 <;> rfl
  | err x st1 => rfl
  | stuck => rfl
theorem evs_one {G : Prg} {cl : Cl} {o : Op} {ca : Ex} {env : En} {st : Sto} : ev G cl (.op o [ca]) env st = (ev G cl ca env st).bind fun x st1 => prim o [x] st1 := by
  simp only [ev, evs]
  cases ev G cl ca env st <;> rfl
section
variable {G : Prg} {cl : Cl} {ca cb cc : Ex}
theorem z_two {o : Op} {t : TE} (hp : ∀ {ta tb : TE}, PE X a ta → PE X b tb → PE X e (tOp (rP2 X.K o) ta tb)) (ha : PE X a (rdE X.K WW (ev G cl ca))) (hb : PE X b (rdE X.K WW (ev G cl cb))) : PE X e (rdE X.K WW (ev G cl (.op o [ca, cb]))) :=
  (hp ha hb).imp fun σ H Q h => rd_two (by
    obtain ⟨ad, st, env, S, s, g⟩ := h
    rw [evs_two] at g
    exact ⟨ad, st, env, S, s, g⟩)
theorem z_one {o : Op} (hp : ∀ {ta : TE}, PE X a ta → PE X e (fun σ H Q => ta σ H fun x H1 => rP1 X.K o x H1 Q)) (ha : PE X a (rdE X.K WW (ev G cl ca))) : PE X e (rdE X.K WW (ev G cl (.op o [ca]))) :=
  (hp ha).imp fun σ H Q h => by
    obtain ⟨ad, st, env, S, s, g⟩ := h
    rw [evs_one] at g
    obtain ⟨ad0, st0, env0, S0, s0, g0⟩ := rd_bind (rel := rV X.K) (m := ev G cl ca) (f := fun env x st1 => prim o [x] st1) ⟨ad, st, env, S, s, g⟩
    refine ⟨ad0, st0, env0, S0, s0, g0.mono fun x H1 q => ?_⟩
    obtain ⟨wx, ad, env, st, S, s, rx, g⟩ := q
    exact ⟨ad, st, wx, _, S, rx, g⟩
/-- argument lists -/
theorem z_nil : PA X [] (rdA X.K WW (evs G cl [])) := pa_nil.imp fun σ H Q h => by
  obtain ⟨ad, st, env, S, s, g⟩ := h
  exact g.ok_ S rfl
theorem z_cons {es : List Expr} {cs : List Ex} (ha : PE X e (rdE X.K WW (ev G cl ca))) (hb : PA X es (rdA X.K WW (evs G cl cs))) (hs : starEach (e :: es) X.env = (false, eval e X.env) :: starEach es X.env) : PA X (e :: es) (rdA X.K WW (evs G cl (ca :: cs))) :=
  (pa_cons ha hb hs).imp fun σ H Q h => by
    obtain ⟨ad0, st0, env0, S0, s0, g0⟩ := rd_bind (rel := rV X.K) (m := ev G cl ca) (f := fun env w st1 => (evs G cl cs env st1).bind fun ws st2 => .ok (w :: ws) st2) (by
      obtain ⟨ad, st, env, S, s, g⟩ := h
      exact ⟨ad, st, env, S, s, g⟩)
    refine ⟨ad0, st0, env0, S0, s0, g0.mono fun x H1 q => ?_⟩
    obtain ⟨wx, ad, env, st, S, s, rx, g⟩ := q
    refine ⟨ad, st, env, S, s, (Good.step (rel := rVs X.K) g).mono fun ys H2 q2 => ?_⟩
    obtain ⟨wy, ad1, st1, _, x1, S1, ry, g1⟩ := q2
    exact g1.ok_ S1 ⟨x, ys, rfl, rx.ext S x1, ry⟩
/-- an operation on all arguments at once -/
theorem rd_args {o : Op} {cs : List Ex} {σ : L2.St} {H : Hp} {Q : VK} (h : rdE X.K WW (ev G cl (.op o cs)) σ H Q) : tCB (rPn X.K o) (rdA X.K WW (evs G cl cs)) σ H Q := by
  obtain ⟨ad0, st0, env0, S0, s0, g0⟩ := rd_bind (rel := rVs X.K) (m := evs G cl cs) (f := fun env ws st1 => prim o ws st1) (by
      obtain ⟨ad, st, env, S, s, g⟩ := h
      exact ⟨ad, st, env, S, s, g⟩)
  refine ⟨ad0, st0, env0, S0, s0, g0.mono fun x H1 q => ?_⟩
  obtain ⟨wx, ad, env, st, S, s, rx, g⟩ := q
  exact ⟨ad, st, wx, _, S, rx, g⟩
theorem z_args {o : Op} {cs : List Ex} {es : List Expr} (hp : ∀ {t : TA}, PA X es t → PE X e (tCB (rPn X.K o) t)) (ha : PA X es (rdA X.K WW (evs G cl cs))) : PE X e (rdE X.K WW (ev G cl (.op o cs))) :=
  (hp ha).imp fun σ H Q h => rd_args h
theorem rd_argsB {o : Op} {cs : List Ex} {σ : L2.St} {H : Hp} {Q : VK} {B : List V → Hp → Prop} (h : rdE X.K WW (ev G cl (.op o cs)) σ H Q) (hB : ∀ vs H1, rPn X.K o vs H1 Q → B vs H1) : rdA X.K WW (evs G cl cs) σ H B := by
  obtain ⟨ad, st, env, S, s, g⟩ := rd_args h
  exact ⟨ad, st, env, S, s, g.mono hB⟩
theorem z_tup {es : List Expr} {cs : List Ex} {k : Nat} {pos : Pos} (ha : PA X es (rdA X.K WW (evs G cl cs))) : PE X (.Tuple es k pos) (rdE X.K WW (ev G cl (.op .tup cs))) := (pe_tup ha).imp fun σ H Q h => rd_argsB h fun vs H1 q => by
  obtain ⟨ad, st, ws, E, S, r, g⟩ := q
  simp only [prim] at g
  split at g
  · rename_i hl
    exact ⟨by rw [← r.length]; exact Nat.le_trans hl szL_le, Good.new_tup S r g⟩
  · exact g.elim
theorem z_lst {m : Bool} {es : List Expr} {cs : List Ex} {pos : Pos} (ha : PA X es (rdA X.K WW (evs G cl cs))) : PE X (.List es pos) (rdE X.K WW (ev G cl (.op (.lst m) cs))) := (pe_lst ha).imp fun σ H Q h => rd_argsB h fun vs H1 q => by
  obtain ⟨ad, st, ws, E, S, r, g⟩ := q
  simp only [prim] at g
  split at g
  · rename_i hl
    exact ⟨by rw [← r.length]; exact Nat.le_trans hl szL_le, Good.new_mk S r g⟩
  · exact g.elim
theorem rd_oneB {o : Op} {σ : L2.St} {H : Hp} {Q : VK} {B : V → Hp → Prop} (h : rdE X.K WW (ev G cl (.op o [ca])) σ H Q) (hB : ∀ x H1, rP1 X.K o x H1 Q → B x H1) : rdE X.K WW (ev G cl ca) σ H B := by
  obtain ⟨ad, st, env, S, s, g⟩ := h
  rw [evs_one] at g
  obtain ⟨ad0, st0, env0, S0, s0, g0⟩ := rd_bind (rel := rV X.K) (m := ev G cl ca) (f := fun env x st1 => prim o [x] st1) ⟨ad, st, env, S, s, g⟩
  refine ⟨ad0, st0, env0, S0, s0, g0.mono fun x H1 q => hB x H1 ?_⟩
  obtain ⟨wx, ad, env, st, S, s, rx, g⟩ := q
  exact ⟨ad, st, wx, _, S, rx, g⟩
/-- is None -/
theorem z_is {op : CmpOp} {o : Op} {pos p2 : Pos} {k : Nat} (ho : OpR X (compareOp op) (fun x y H Q => y = .non ∧ rP1 X.K o x H Q)) (ha : PE X a (rdE X.K WW (ev G cl ca))) : PE X (.Compare a [op] [.Constant .none k p2] pos) (rdE X.K WW (ev G cl (.op o [ca]))) :=
  (pe_cmpR ho ha pe_non rfl).imp fun σ H Q h => rd_oneB h fun x H1 q => ⟨rfl, q⟩
theorem z_isT {op : CmpOp} {o : Op} {pos p2 : Pos} {k : Nat} (ho : OpR X (compareOp op) (fun x y H Q => y = .non ∧ rP1 X.K o x H Q)) (ha : PE X a (rdE X.K WW (ev G cl ca))) : PT X (.Compare a [op] [.Constant .none k p2] pos) (tB (rdE X.K WW (ev G cl (.op o [ca])))) :=
  (pt_cmpR ho ha pe_non rfl).imp fun σ H Q h => rd_oneB h fun x H1 q => ⟨rfl, q⟩
theorem z_twoT {o : Op} {t : TE} (hp : ∀ {ta tb : TE}, PE X a ta → PE X b tb → PT X e (tTest (tOp (rP2 X.K o) ta tb))) (ha : PE X a (rdE X.K WW (ev G cl ca))) (hb : PE X b (rdE X.K WW (ev G cl cb))) : PT X e (tB (rdE X.K WW (ev G cl (.op o [ca, cb])))) :=
  (hp ha hb).imp fun σ H Q h => rd_two (by
    obtain ⟨ad, st, env, S, s, g⟩ := h
    rw [evs_two] at g
    exact ⟨ad, st, env, S, s, g⟩)
/-- truth -/
theorem tru_good {K : PySem.W.Frag} {ad : Ad} {H : Hp} {w : W} {x : V} {A B : R W} {Q : VK} {E : XK} (r : RV K ad H w x) (g : Good K (rV K) ad H (tru w A B) Q E) : ∃ c, x = .bl c ∧ Good K (rV K) ad H (if c = true then A else B) Q E := by
  unfold tru at g
  split at g
  · exact ⟨true, r, g⟩
  · exact ⟨false, r, g⟩
  · exact g.elim
theorem if_good {K : PySem.W.Frag} {c : Bool} {ad : Ad} {H : Hp} {st : Sto} {A B : R W} {Q : VK} {E : XK} {P1 P2 : Prop} (g : Good K (rV K) ad H (if c = true then A else B) Q E) (h1 : Good K (rV K) ad H A Q E → P1) (h2 : Good K (rV K) ad H B Q E → P2) : if c = true then P1 else P2 := by
  cases c with
  | true => exact h1 g
  | false => exact h2 g
theorem z_and {rest : List Expr} {pos : Pos} (ha : PE X a (rdE X.K WW (ev G cl ca))) (hb : PE X (.BoolOp .And (b :: rest) pos) (rdE X.K WW (ev G cl cb))) : PE X (.BoolOp .And (a :: b :: rest) pos) (rdE X.K WW (ev G cl (.and ca cb))) :=
  (pe_and ha hb).imp fun σ H Q h => by
    obtain ⟨ad0, st0, env0, S0, s0, g0⟩ := rd_bind (rel := rV X.K) (m := ev G cl ca) (f := fun env w st1 => tru w (ev G cl cb env st1) (.ok (.bl false) st1)) h
    refine ⟨ad0, st0, env0, S0, s0, g0.mono fun x H1 q => ?_⟩
    obtain ⟨wx, ad, env, st, S, s, rx, g⟩ := q
    obtain ⟨c, rfl, g⟩ := tru_good rx g
    exact ⟨c, rfl, if_good (st := st) g (fun g => ⟨ad, st, env, S, s, g⟩) (fun g => g.ok_ S rfl)⟩
theorem z_or {rest : List Expr} {pos : Pos} (ha : PE X a (rdE X.K WW (ev G cl ca))) (hb : PE X (.BoolOp .Or (b :: rest) pos) (rdE X.K WW (ev G cl cb))) : PE X (.BoolOp .Or (a :: b :: rest) pos) (rdE X.K WW (ev G cl (.or ca cb))) :=
  (pe_or ha hb).imp fun σ H Q h => by
    obtain ⟨ad0, st0, env0, S0, s0, g0⟩ := rd_bind (rel := rV X.K) (m := ev G cl ca) (f := fun env w st1 => tru w (.ok (.bl true) st1) (ev G cl cb env st1)) h
    refine ⟨ad0, st0, env0, S0, s0, g0.mono fun x H1 q => ?_⟩
    obtain ⟨wx, ad, env, st, S, s, rx, g⟩ := q
    obtain ⟨c, rfl, g⟩ := tru_good rx g
    exact ⟨c, rfl, if_good (st := st) g (fun g => g.ok_ S rfl) (fun g => ⟨ad, st, env, S, s, g⟩)⟩
theorem z_not {pos : Pos} (ha : PE X a (rdE X.K WW (ev G cl ca))) : PE X (.UnaryOp .Not a pos) (rdE X.K WW (ev G cl (.not ca))) :=
  (pe_not ha).imp fun σ H Q h => by
    obtain ⟨ad0, st0, env0, S0, s0, g0⟩ := rd_bind (rel := rV X.K) (m := ev G cl ca) (f := fun env w st1 => tru w (.ok (.bl false) st1) (.ok (.bl true) st1)) h
    refine ⟨ad0, st0, env0, S0, s0, g0.mono fun x H1 q => ?_⟩
    obtain ⟨wx, ad, env, st, S, s, rx, g⟩ := q
    obtain ⟨c, rfl, g⟩ := tru_good rx g
    refine ⟨c, rfl, ?_⟩
    cases c with
    | true => exact g.ok_ S rfl
    | false => exact g.ok_ S rfl
theorem z_andT {rest : List Expr} {pos : Pos} (ha : PT X a (tB (rdE X.K WW (ev G cl ca)))) (hb : PW X (.BoolOp .And (b :: rest) pos) (tB (rdE X.K WW (ev G cl cb)))) : PW X (.BoolOp .And (a :: b :: rest) pos) (tB (rdE X.K WW (ev G cl (.and ca cb)))) :=
  ⟨fun wh pins s σ H Q I h => (pw_and ha hb).run wh pins s σ H Q I (by
    obtain ⟨ad0, st0, env0, S0, s0, g0⟩ := rd_bind (rel := rV X.K) (m := ev G cl ca) (f := fun env w st1 => tru w (ev G cl cb env st1) (.ok (.bl false) st1)) h
    refine ⟨ad0, st0, env0, S0, s0, g0.mono fun x H1 q => ?_⟩
    obtain ⟨wx, ad, env, st, S, s, rx, g⟩ := q
    obtain ⟨c, rfl, g⟩ := tru_good rx g
    refine ⟨c, rfl, ?_⟩
    cases c with
    | true => exact ⟨ad, st, env, S, s, g⟩
    | false =>
      obtain ⟨k, e, q⟩ := g.ok_ S (rv_bl false)
      cases e
      exact q)⟩
theorem z_orT {rest : List Expr} {pos : Pos} (ha : PT X a (tB (rdE X.K WW (ev G cl ca)))) (hb : PW X (.BoolOp .Or (b :: rest) pos) (tB (rdE X.K WW (ev G cl cb)))) : PW X (.BoolOp .Or (a :: b :: rest) pos) (tB (rdE X.K WW (ev G cl (.or ca cb)))) :=
  ⟨fun wh pins s σ H Q I h => (pw_or ha hb).run wh pins s σ H Q I (by
    obtain ⟨ad0, st0, env0, S0, s0, g0⟩ := rd_bind (rel := rV X.K) (m := ev G cl ca) (f := fun env w st1 => tru w (.ok (.bl true) st1) (ev G cl cb env st1)) h
    refine ⟨ad0, st0, env0, S0, s0, g0.mono fun x H1 q => ?_⟩
    obtain ⟨wx, ad, env, st, S, s, rx, g⟩ := q
    obtain ⟨c, rfl, g⟩ := tru_good rx g
    refine ⟨c, rfl, ?_⟩
    cases c with
    | false => exact ⟨ad, st, env, S, s, g⟩
    | true =>
      obtain ⟨k, e, q⟩ := g.ok_ S (rv_bl true)
      cases e
      exact q)⟩
theorem z_notT {pos : Pos} (ha : PT X a (tB (rdE X.K WW (ev G cl ca)))) : PT X (.UnaryOp .Not a pos) (tB (rdE X.K WW (ev G cl (.not ca)))) :=
  (pt_not ha).imp fun σ H Q h => by
    obtain ⟨ad0, st0, env0, S0, s0, g0⟩ := rd_bind (rel := rV X.K) (m := ev G cl ca) (f := fun env w st1 => tru w (.ok (.bl false) st1) (.ok (.bl true) st1)) h
    refine ⟨ad0, st0, env0, S0, s0, g0.mono fun x H1 q => ?_⟩
    obtain ⟨wx, ad, env, st, S, s, rx, g⟩ := q
    obtain ⟨c, rfl, g⟩ := tru_good rx g
    refine ⟨c, rfl, ?_⟩
    cases c with
    | true =>
      obtain ⟨k, e, q⟩ := g.ok_ S (rv_bl false)
      cases e
      exact q
    | false =>
      obtain ⟨k, e, q⟩ := g.ok_ S (rv_bl true)
      cases e
      exact q
theorem z_ite {pos : Pos} (hc : PT X c (tB (rdE X.K WW (ev G cl cc)))) (ha : PE X a (rdE X.K WW (ev G cl ca))) (hb : PE X b (rdE X.K WW (ev G cl cb))) : PE X (.IfExp c a b pos) (rdE X.K WW (ev G cl (.ite cc ca cb))) :=
  (pe_ifExp hc ha hb).imp fun σ H Q h => by
    obtain ⟨ad0, st0, env0, S0, s0, g0⟩ := rd_bind (rel := rV X.K) (m := ev G cl cc) (f := fun env w st1 => tru w (ev G cl ca env st1) (ev G cl cb env st1)) h
    refine ⟨ad0, st0, env0, S0, s0, g0.mono fun x H1 q => ?_⟩
    obtain ⟨wx, ad, env, st, S, s, rx, g⟩ := q
    obtain ⟨c, rfl, g⟩ := tru_good rx g
    exact ⟨c, rfl, if_good (st := st) g (fun g => ⟨ad, st, env, S, s, g⟩) (fun g => ⟨ad, st, env, S, s, g⟩)⟩
theorem rd_chain {o p : Op} {σ : L2.St} {H : Hp} {Q : VK} (h : rdE X.K WW (ev G cl (.chain o p ca cb cc)) σ H Q) : tChain (rP2 X.K o) (rP2 X.K p) (rdE X.K WW (ev G cl ca)) (rdE X.K WW (ev G cl cb)) (rdE X.K WW (ev G cl cc)) σ H Q := by
  obtain ⟨ad0, st0, env0, S0, s0, g0⟩ := rd_bind (rel := rV X.K) (m := ev G cl ca) (f := fun env x st1 => (ev G cl cb env st1).bind fun y st2 => (prim o [x, y] st2).bind fun w st3 =>
      tru w ((ev G cl cc env st3).bind fun z st4 => prim p [y, z] st4) (.ok (.bl false) st3)) h
  refine ⟨ad0, st0, env0, S0, s0, g0.mono fun x H1 q => ?_⟩
  obtain ⟨wx, ad, env, st, S, s, rx, g⟩ := q
  refine ⟨ad, st, env, S, s, (Good.step (rel := rV X.K) g).mono fun y H2 q2 => ?_⟩
  obtain ⟨wy, ad1, st1, _, x1, S1, ry, g1⟩ := q2
  refine ⟨ad1, st1, wx, wy, _, S1, rx.ext S x1, ry, (Good.step (rel := rV X.K) g1).mono fun z H3 q3 => ?_⟩
  obtain ⟨wz, ad2, st2, _, x2, S2, rz, g2⟩ := q3
  obtain ⟨k, rfl, g2⟩ := tru_good rz g2
  refine ⟨k, rfl, if_good (st := st2) g2 (fun g => ?_) (fun g => g.ok_ S2 rfl)⟩
  refine ⟨ad2, st2, env, S2, (s.ext S x1).ext S1 x2, (Good.step (rel := rV X.K) g).mono fun u H4 q4 => ?_⟩
  obtain ⟨wu, ad3, st3, _, x3, S3, ru, g3⟩ := q4
  exact ⟨ad3, st3, wy, wu, _, S3, (ry.ext S1 x2).ext S2 x3, ru, g3⟩
theorem z_ix {pos : Pos} (ha : PE X a (rdE X.K WW (ev G cl ca))) (hb : PE X b (rdE X.K WW (ev G cl cb))) (hs : PlainIx b) : PE X (.Subscript a b pos) (rdE X.K WW (ev G cl (.op .ix [ca, cb]))) :=
  z_two (t := fun _ _ _ => True) (fun h1 h2 => pe_ix or_ix h1 h2 hs) ha hb
theorem z_fld {f : Str} {pos : Pos} (hb : attributeBase a f X.env (eval a X.env) = eval a X.env) (hf : ∀ C, G.fldOk C f = true → Cls X.K (He.ga X.K C) ∧ NoAttr X.K (He.ga X.K C) f) (ha : PE X a (rdE X.K WW (ev G cl ca))) : PE X (.Attribute a f pos) (rdE X.K WW (ev G cl (.fld ca f))) :=
  (pe_fld ha hb).imp fun σ H Q h => by
    obtain ⟨ad0, st0, env0, S0, s0, g0⟩ := rd_bind (rel := rV X.K) (m := ev G cl ca) (f := fun env x st1 => match fldsOf st1 x with
      | some (C, fs) => if G.fldOk C f then (match fs.lookup f with
        | some w => .ok w st1
        | none => .stuck) else .stuck
      | none => .stuck) h
    refine ⟨ad0, st0, env0, S0, s0, g0.mono fun x H1 q => ?_⟩
    obtain ⟨wx, ad, env, st, S, s, rx, g⟩ := q
    split at g
    · rename_i C fs hfs
      split at g
      · rename_i hok
        split at g
        · rename_i w hw
          obtain ⟨a, dx, vs, rfl, k1, q1⟩ := fldsOf_rel S rx hfs
          obtain ⟨v, hv, rv⟩ := RK.look q1 hw
          exact ⟨a, _, dx, vs, v, rfl, k1, (hf C hok).1, (hf C hok).2, hv, g.ok_ S rv⟩
        · exact g.elim
      · exact g.elim
    · exact g.elim
end
end
end Zv

set_option maxRecDepth 100000
set_option maxHeartbeats 4000000
/-! EvFn: promises of defs: calls by position or with keywords, where nothing is being shown. -/
namespace Zv
open PySem PySem.Spec PyProof.Rows L2
structure Rm (k : Nat) (A : Around) : Prop extends Room k A where
  gd : A.guards = some []
theorem Rm.mono {j k : Nat} {A : Around} (r : Rm k A) (h : j ≤ k) : Rm j A := ⟨r.toRoom.mono h, r.gd⟩
theorem Rm.deeper {k : Nat} {A : Around} (r : Rm (k + 1) A) (env : Env) : Rm k (A.deeper env) := ⟨r.toRoom.deeper env, r.gd⟩
theorem Rm.in1 {k : Nat} {A : Around} (r : Rm (k + 1) A) : Rm k A.in1 := ⟨r.toRoom.in1, r.gd⟩
theorem no_guard : guardIds.contains "type.__call__" = false := by decide +kernel
theorem Rm.make {k : Nat} {A : Around} (r : Rm (k + 1) A) (C : Addr) (us : List Value) (kw : List (Str × Value)) : Rm k (A.under (.builtin "type.__call__" ⟨.ref C :: us, kw⟩)) := by
  refine ⟨r.toRoom.make C us kw, ?_⟩
  have h : Code.guards (.builtin "type.__call__" ⟨.ref C :: us, kw⟩) = [] := by
    unfold Code.guards
    rw [show Code.isGuard (.builtin "type.__call__" ⟨.ref C :: us, kw⟩) = false from no_guard]
    rfl
  have e : (A.under (.builtin "type.__call__" ⟨.ref C :: us, kw⟩)).guards = pushGuards (Code.guards (.builtin "type.__call__" ⟨.ref C :: us, kw⟩)) A.guards := rfl
  rw [e, h]
  exact r.gd
def kwOk (ps : List Str) (n : Nat) (ks : List Str) : Bool := decide (n ≤ ps.length) && (decide ks.Nodup && ((ks.all fun k => (ps.drop n).contains k) && (ps.drop n).all fun p => ks.contains p))
def permOf (ps : List Str) (n : Nat) (ks : List Str) : List Nat := List.range n ++ (ps.drop n).map fun p => n + ks.idxOf p
def permL {α : Type} (ws : List α) : List Nat → Option (List α)
  | [] => some []
  | i :: is => match ws[i]?, permL ws is with
    | some w, some r => some (w :: r)
    | _, _ => none
/-- how a call's arguments stand in the parameters' order -/
def Put (pr : List Str × Bool) (args : Args) (us : List Value) : Prop := args = ⟨us, []⟩ ∨ (pr.2 = false ∧ ∃ (ks : List Str) (us0 ws : List Value), args = ⟨us0, ks.zip ws⟩ ∧ ws.length = ks.length ∧ kwOk pr.1 us0.length ks = true ∧ permL (us0 ++ ws) (permOf pr.1 us0.length ks) = some us)
def FnG (P : Program) (w : World) (K : PySem.W.Frag) (mg : Str → Option Value) (base : Heap) (CX : CXT) (k : Nat) (f : Addr) (pr : List Str × Bool) (sp : Sp) : Prop :=
  ∀ (A : Around) (outer : List Env) (s : Shared) (H : Hp) (args : Args) (us : List Value) (vs : List V) (Q : VK) (E : XK), Rm k A → Env0 P w K mg base A outer s H → Put pr args us → Vals vs us → sp vs H Q E → codeAny (model P w) A (.call (.ref f) args) (CR CX outer P w H s Q E) s
theorem FnG.imp {P : Program} {w : World} {K : PySem.W.Frag} {mg : Str → Option Value} {base : Heap} {CX : CXT} {k : Nat} {f : Addr} {pr : List Str × Bool} {sp sp2 : Sp} (F : FnG P w K mg base CX k f pr sp) (h : ∀ vs H Q E, sp2 vs H Q E → sp vs H Q E) : FnG P w K mg base CX k f pr sp2 :=
  fun A outer s H args us vs Q E hr e0 p r q => F A outer s H args us vs Q E hr e0 p r (h vs H Q E q)
end Zv

set_option maxRecDepth 100000
set_option maxHeartbeats 4000000
/-! Ev5: calls, methods, slices. -/
namespace Zv
open PySem PySem.Spec PyProof.Rows L2
/-! ### arguments without a star -/
def noStar : Expr → Bool
  | .Starred _ _ => false
  | _ => true
theorem star_cons {e : Expr} {es : List Expr} {env : Env} (h : noStar e = true) : starEach (e :: es) env = (false, eval e env) :: starEach es env := by
  cases e <;> first | rfl | (simp [noStar] at h)
theorem star_none {env : Env} {pos : Pos} : ∀ {es : List Expr}, es.all noStar = true → (backTo pos (starEach es env)).any (·.1) = false
  | [], _ => rfl
  | e :: es, h => by
    simp only [List.all_cons, Bool.and_eq_true] at h
    rw [star_cons h.1]
    show (false || (backTo pos (starEach es env)).any (·.1)) = false
    rw [star_none h.2]
    rfl
def noSuper : Expr → Bool
  | .Call (.Name _ _) [] [] _ => false
  | _ => true
theorem base_of {o : Expr} {f : Str} {env : Env} {whole : Sem Value} (h : noSuper o = true) : attributeBase o f env whole = whole := by
  unfold attributeBase
  split
  · simp [noSuper] at h
  · rfl
section
variable {X : Cx} {WW : WX} {e a b c : Expr} {G : Prg} {cl : Cl} {ca cb cc : Ex}
/-- a callee that is told by its run -/
def spC (K : PySem.W.Frag) (cl : Cl) (f : Str) : Sp := fun vs H Q E => ∃ ad st ws, SimH K ad st H ∧ RVs K ad H ws vs ∧ Good K (rV K) ad H (cl f ws st) Q E
theorem run_fnRS {CX : CXT} {pins : List (Addr × Obj)} {σ : L2.St} {H : Hp} {s : Shared} {k : Nat} {f : Addr} {pr : List Str × Bool} {sp : Sp} {E : XK} {Q : VK} {us : List Value} {vs : List V} (F : FnG X.prog X.w X.K X.mg X.base CX k f pr sp) (hr : Rm k X.A) (hx : PassesAt CX X σ E) (I : L2.Inv X pins σ H s) (r : Vals vs us) (h : sp vs H Q E) :
    wpAny (model X.prog X.w) X.A (call (.ref f) us) (EP X pins σ Q) X.xe s := by
  refine wpAny_call (codeAny_mono (F X.A X.stack s H ⟨us, []⟩ us vs Q E hr I.env0 (.inl rfl) r h) fun r s' hq => ?_)
  cases r with
  | error e => exact hx pins H s e s' I hq
  | ok fl =>
    cases fl with
    | ret u => exact I.after hq
    | next => exact False.elim hq
    | brk => exact False.elim hq
    | cont => exact False.elim hq
theorem run_makeRS {CX : CXT} {k : Nat} {f C : Addr} {pr : List Str × Bool} {sp : Sp} {E : XK} {pins : List (Addr × Obj)} {σ : L2.St} {H : Hp} {s : Shared} {Q : VK} {us : List Value} {vs : List V} (M : Mk X.K C f) (F : FnG X.prog X.w X.K X.mg X.base CX k f pr sp) (hr : Rm (k + 1) X.A) (hx : PassesAt CX X σ E) (I : L2.Inv X pins σ H s) (r : Vals vs us)
    (h : ∀ x dx, H x = Option.none → H dx = Option.none → dx ≠ x → sp (V.ref x :: vs) (upd (upd H dx (.own x)) x (.ins C dx [])) (fun v H2 => v = .non ∧ Q (.ref x) H2) E) :
    wpAny (model X.prog X.w) X.A (call (.ref C) us) (EP X pins σ Q) X.xe s := by
  have hq := h (s.heap.objs.size + 1) s.heap.objs.size (I.hok.fresh (Nat.le_succ _)) (I.hok.fresh (Nat.le_refl _)) (Nat.ne_of_lt (Nat.lt_succ_self _))
  have I2 := Inv.made (C := C) I
  have r2 : Vals (V.ref (s.heap.objs.size + 1) :: vs) (Value.ref (s.heap.objs.size + 1) :: us) := .cons rfl r
  refine wpAny_call (make_map (f := f) I.kIn M.makes M.init (beq_iff_eq.mp M.fn) (codeAny_mono (F _ X.stack _ _ ⟨Value.ref (s.heap.objs.size + 1) :: us, []⟩ (Value.ref (s.heap.objs.size + 1) :: us) _ _ E (hr.make C us []) (I2.env0.make C us []) (.inl rfl) r2 hq) fun r s' hq' => ?_))
  cases r with
  | error e => exact hx pins _ _ e s' I2 hq'
  | ok fl =>
    cases fl with
    | ret u =>
      obtain ⟨v, H', I3, rv, ev, q3⟩ := I2.after hq'
      subst ev
      exact ⟨rv, ⟨V.ref (s.heap.objs.size + 1), H', I3, rfl, q3⟩⟩
    | next => exact False.elim hq'
    | brk => exact False.elim hq'
    | cont => exact False.elim hq'
/-- the arguments' reading, and what follows them -/
theorem rdA_then {cs : List Ex} {f : En → List W → Sto → R W} {σ : L2.St} {H : Hp} {Q : VK} {B : List V → Hp → Prop} (h : rdE X.K WW (fun env st => (evs G cl cs env st).bind (f env)) σ H Q)
    (hB : ∀ vs H1 ad env st ws, SimH X.K ad st H1 → SimS X.K ad H1 env σ → RVs X.K ad H1 ws vs → Good X.K (rV X.K) ad H1 (f env ws st) Q (fun cls d H' => WW cls d σ H') → B vs H1) : rdA X.K WW (evs G cl cs) σ H B := by
  obtain ⟨ad0, st0, env0, S0, s0, g0⟩ := rd_bind (rel := rVs X.K) (m := evs G cl cs) (f := f) h
  refine ⟨ad0, st0, env0, S0, s0, g0.mono fun x H1 q => ?_⟩
  obtain ⟨wx, ad, env, st, S, s, rx, g⟩ := q
  exact hB x H1 ad env st wx S s rx g
theorem rdE_then {f : En → W → Sto → R W} {σ : L2.St} {H : Hp} {Q : VK} {B : V → Hp → Prop} (h : rdE X.K WW (fun env st => (ev G cl ca env st).bind (f env)) σ H Q)
    (hB : ∀ v H1 ad env st w, SimH X.K ad st H1 → SimS X.K ad H1 env σ → RV X.K ad H1 w v → Good X.K (rV X.K) ad H1 (f env w st) Q (fun cls d H' => WW cls d σ H') → B v H1) : rdE X.K WW (ev G cl ca) σ H B := by
  obtain ⟨ad0, st0, env0, S0, s0, g0⟩ := rd_bind (rel := rV X.K) (m := ev G cl ca) (f := f) h
  refine ⟨ad0, st0, env0, S0, s0, g0.mono fun x H1 q => ?_⟩
  obtain ⟨wx, ad, env, st, S, s, rx, g⟩ := q
  exact hB x H1 ad env st wx S s rx g
/-- from inside: the reading of a later part -/
theorem rdE_in {f : W → Sto → R W} {σ : L2.St} {H : Hp} {Q : VK} {B : V → Hp → Prop} {ad : Ad} {st : Sto} {env : En} (S : SimH X.K ad st H) (s : SimS X.K ad H env σ) (h : Good X.K (rV X.K) ad H ((ev G cl ca env st).bind f) Q (fun cls d H' => WW cls d σ H'))
    (hB : ∀ v H1 ad1 st1 w, Ext ad ad1 H H1 → SimH X.K ad1 st1 H1 → RV X.K ad1 H1 w v → Good X.K (rV X.K) ad1 H1 (f w st1) Q (fun cls d H' => WW cls d σ H') → B v H1) : rdE X.K WW (ev G cl ca) σ H B := by
  refine ⟨ad, st, env, S, s, (Good.step (rel := rV X.K) h).mono fun x H1 q => ?_⟩
  obtain ⟨a, ad1, st1, _, x1, S1, r, g1⟩ := q
  exact hB x H1 ad1 st1 a x1 S1 r g1
theorem rdA_in {cs : List Ex} {f : List W → Sto → R W} {σ : L2.St} {H : Hp} {Q : VK} {B : List V → Hp → Prop} {ad : Ad} {st : Sto} {env : En} (S : SimH X.K ad st H) (s : SimS X.K ad H env σ) (h : Good X.K (rV X.K) ad H ((evs G cl cs env st).bind f) Q (fun cls d H' => WW cls d σ H'))
    (hB : ∀ v H1 ad1 st1 w, Ext ad ad1 H H1 → SimH X.K ad1 st1 H1 → RVs X.K ad1 H1 w v → Good X.K (rV X.K) ad1 H1 (f w st1) Q (fun cls d H' => WW cls d σ H') → B v H1) : rdA X.K WW (evs G cl cs) σ H B := by
  refine ⟨ad, st, env, S, s, (Good.step (rel := rVs X.K) h).mono fun x H1 q => ?_⟩
  obtain ⟨a, ad1, st1, _, x1, S1, r, g1⟩ := q
  exact hB x H1 ad1 st1 a x1 S1 r g1
abbrev adr (G : Prg) (K : PySem.W.Frag) (f : Str) : Addr := G.at_ f K
theorem z_call {x : Str} {es : List Expr} {cs : List Ex} {p pos : Pos} {k : Nat} (F : FnG X.prog X.w X.K X.mg X.base (L2.CX X.prog X.w) k (adr G X.K x) (G.par x) (spC X.K cl x)) (hr : Rm k X.A) (hg : Gl X x) (hm : X.mg x = some (.ref (adr G X.K x))) (hk : PySem.W.keepIn X.K (.ref (adr G X.K x)) = true) (tk : Takes X WW)
    (ha : PA X (e :: es) (rdA X.K WW (evs G cl cs))) (hs : (e :: es).all noStar = true) (hdb : (x == ("__debug__" : Str)) = false) : PE X (.Call (.Name x p) (e :: es) [] pos) (rdE X.K WW (ev G cl (.call x none cs))) := by
  refine ⟨fun pins s σ H Q I h => ?_⟩
  have h2 : rdA X.K WW (evs G cl cs) σ H (fun vs H1 => spC X.K cl x vs H1 Q (WE WW σ)) := rdA_then (f := fun env ws st1 => match permO ws none with
    | some us => cl x us st1
    | none => .stuck) h fun vs H1 ad env st ws S _ r g => ⟨ad, st, ws, S, r, g⟩
  refine wpAny_Call_Name_kw (ld_glob I hg hm ?_ hdb)
  simp only [List.all_cons, Bool.and_eq_true] at hs
  refine PySem.W.callWith_K (h₀ := X.base) I.ok.mod.kin hk (thn (ha.run pos pins s σ H _ I h2) fun us s1 ⟨vs, H1, I1, r, q⟩ => ⟨I1.kIn, ?_⟩) (star_cons hs.1) (star_none hs.2)
  exact run_fnRS F hr (passAt tk σ) I1 r q
theorem z_call0 {x : Str} {p pos : Pos} {k : Nat} (F : FnG X.prog X.w X.K X.mg X.base (L2.CX X.prog X.w) k (adr G X.K x) (G.par x) (spC X.K cl x)) (hr : Rm k X.A) (hg : Gl X x) (hm : X.mg x = some (.ref (adr G X.K x))) (hk : PySem.W.keepIn X.K (.ref (adr G X.K x)) = true) (tk : Takes X WW)
    (hdb : (x == ("__debug__" : Str)) = false) : PE X (.Call (.Name x p) [] [] pos) (rdE X.K WW (ev G cl (.call x none []))) := by
  refine ⟨fun pins s σ H Q I h => ?_⟩
  obtain ⟨ad, st, env, S, ss, g⟩ := h
  refine wpAny_Call_Name_kw (ld_glob I hg hm ?_ hdb)
  exact PySem.W.callWith_K0 I.kIn hk (run_fnRS (us := []) (vs := []) F hr (passAt tk σ) I .nil ⟨ad, st, [], S, rfl, g⟩)
/-! ### methods of one's own classes -/
/-- what the table tells of a method -/
structure MethOk (G : Prg) (cl : Cl) (X : Cx) (k : Nat) (m : Str) : Prop where
  ok : ∀ C f, G.meth C m = some f → Cls X.K (He.ga X.K C) ∧ Meth X.K (He.ga X.K C) m (adr G X.K f) ∧ FnG X.prog X.w X.K X.mg X.base (L2.CX X.prog X.w) k (adr G X.K f) (G.par f) (spC X.K cl f)
theorem z_meth {o : Expr} {m : Str} {es : List Expr} {cs : List Ex} {apos pos : Pos} {k : Nat} {pl : Sem Bool} (MO : MethOk G cl X k m) (hr : Rm k X.A) (tk : Takes X WW) (ho : PE X o (rdE X.K WW (ev G cl ca))) (ha : PA X (e :: es) (rdA X.K WW (evs G cl cs))) (hs : (e :: es).all noStar = true)
    (ht : eval (.Call (.Attribute o m apos) (e :: es) [] pos) X.env = (do
      let ov ← eval o X.env
      standAt apos.atName
      let (f, first) ← holding [ov] (getMethod ov m pl)
      callWith pos f first (backTo pos (starEach (e :: es) X.env)) (backToKw pos (keywordEach [] X.env)))) : PE X (.Call (.Attribute o m apos) (e :: es) [] pos) (rdE X.K WW (ev G cl (.meth ca m none cs))) := by
  refine ⟨fun pins s σ H Q I h => ?_⟩
  have h2 : rdE X.K WW (ev G cl ca) σ H (fun v H1 => ∃ a C f dx vs, v = .ref a ∧ G.meth C m = some f ∧ H1 a = some (.ins (He.ga X.K C) dx vs) ∧ vs.lookup m = none ∧ rdA X.K WW (evs G cl cs) σ H1 fun us H2 => spC X.K cl f (v :: us) H2 Q (WE WW σ)) := rdE_then (f := fun env x st0 => match fldsOf st0 x with
    | some (C, fs) => if (fs.lookup m).isNone then (match G.meth C m with
        | some f => (evs G cl cs env st0).bind fun ws st1 => (match permO ws none with
          | some us => cl f (x :: us) st1
          | none => .stuck)
        | none => .stuck) else .stuck
    | none => .stuck) h fun v H1 ad env st w S s r g => by
      split at g
      · rename_i C fs hfs
        split at g
        · rename_i hl
          split at g
          · rename_i f hf
            obtain ⟨a, dx, vs, rfl, k1, q1⟩ := fldsOf_rel S r hfs
            refine ⟨a, C, f, dx, vs, rfl, hf, k1, RK.lookN q1 (Option.isNone_iff_eq_none.mp hl), ?_⟩
            refine rdA_in S s g fun us H2 ad1 st1 ws x1 S1 rs g1 => ?_
            exact ⟨ad1, st1, w :: ws, S1, RVs.cons (r.ext S x1) rs, g1⟩
          · exact g.elim
        · exact g.elim
      · exact g.elim
  refine PySem.W.methodCall_KW (pl := pl) (thn (ho.run pins s σ H _ I h2) fun u s1 ⟨x, H1, I1, rx, a, C, f, dx, vs, ex, hf, ea, l, q⟩ => ?_) ht
  subst ex
  obtain rfl : u = Value.ref a := rx
  obtain ⟨c, hm, F⟩ := MO.ok C f hf
  refine getmeth_ok I1 ea c hm l ?_
  simp only [List.all_cons, Bool.and_eq_true] at hs
  refine PySem.W.callWith_K (first := [.ref a]) (h₀ := X.base) I.ok.mod.kin hm.kp (thn (ha.run pos pins s1 σ H1 _ I1 q) fun us s2 ⟨vs, H2, I2, r, q2⟩ => ⟨I2.kIn, ?_⟩) (star_cons hs.1) (star_none hs.2)
  exact run_fnRS (us := .ref a :: us) (vs := .ref a :: vs) F hr (passAt tk σ) I2 (.cons rfl r) q2
theorem z_meth0 {o : Expr} {m : Str} {apos pos : Pos} {k : Nat} {pl : Sem Bool} (MO : MethOk G cl X k m) (hr : Rm k X.A) (tk : Takes X WW) (ho : PE X o (rdE X.K WW (ev G cl ca)))
    (ht : eval (.Call (.Attribute o m apos) [] [] pos) X.env = (do
      let ov ← eval o X.env
      standAt apos.atName
      let (f, first) ← holding [ov] (getMethod ov m pl)
      callWith pos f first (backTo pos (starEach [] X.env)) (backToKw pos (keywordEach [] X.env)))) : PE X (.Call (.Attribute o m apos) [] [] pos) (rdE X.K WW (ev G cl (.meth ca m none []))) := by
  refine ⟨fun pins s σ H Q I h => ?_⟩
  have h2 : rdE X.K WW (ev G cl ca) σ H (fun v H1 => ∃ a C f dx vs, v = .ref a ∧ G.meth C m = some f ∧ H1 a = some (.ins (He.ga X.K C) dx vs) ∧ vs.lookup m = none ∧ spC X.K cl f [v] H1 Q (WE WW σ)) := rdE_then (f := fun env x st0 => match fldsOf st0 x with
    | some (C, fs) => if (fs.lookup m).isNone then (match G.meth C m with
        | some f => (evs G cl [] env st0).bind fun ws st1 => (match permO ws none with
          | some us => cl f (x :: us) st1
          | none => .stuck)
        | none => .stuck) else .stuck
    | none => .stuck) h fun v H1 ad env st w S s r g => by
      split at g
      · rename_i C fs hfs
        split at g
        · rename_i hl
          split at g
          · rename_i f hf
            obtain ⟨a, dx, vs, rfl, k1, q1⟩ := fldsOf_rel S r hfs
            exact ⟨a, C, f, dx, vs, rfl, hf, k1, RK.lookN q1 (Option.isNone_iff_eq_none.mp hl), ad, st, [w], S, RVs.one r, g⟩
          · exact g.elim
        · exact g.elim
      · exact g.elim
  refine PySem.W.methodCall_KW (pl := pl) (thn (ho.run pins s σ H _ I h2) fun u s1 ⟨x, H1, I1, rx, a, C, f, dx, vs, ex, hf, ea, l, q⟩ => ?_) ht
  subst ex
  obtain rfl : u = Value.ref a := rx
  obtain ⟨c, hm, F⟩ := MO.ok C f hf
  refine getmeth_ok I1 ea c hm l ?_
  exact PySem.W.callWith_K0 (first := [.ref a]) I1.kIn hm.kp (run_fnRS (us := [.ref a]) (vs := [.ref a]) F hr (passAt tk σ) I1 (.cons rfl .nil) q)
/-! ### arguments with stars -/
theorem z_nilR : PA X [] (rdA X.K WW (evR G cl [])) := pa_nil.imp fun σ H Q h => by
  obtain ⟨ad, st, env, S, s, g⟩ := h
  exact g.ok_ S rfl
theorem z_consP {es : List Expr} {cs : List Ar} (ha : PE X e (rdE X.K WW (ev G cl ca))) (hb : PA X es (rdA X.K WW (evR G cl cs))) (hs : starEach (e :: es) X.env = (false, eval e X.env) :: starEach es X.env) : PA X (e :: es) (rdA X.K WW (evR G cl (.p ca :: cs))) :=
  (pa_cons ha hb hs).imp fun σ H Q h => by
    obtain ⟨ad0, st0, env0, S0, s0, g0⟩ := rd_bind (rel := rV X.K) (m := ev G cl ca) (f := fun env w st1 => (evR G cl cs env st1).bind fun ws st2 => .ok (w :: ws) st2) (by
      obtain ⟨ad, st, env, S, s, g⟩ := h
      exact ⟨ad, st, env, S, s, g⟩)
    refine ⟨ad0, st0, env0, S0, s0, g0.mono fun x H1 q => ?_⟩
    obtain ⟨wx, ad, env, st, S, s, rx, g⟩ := q
    refine ⟨ad, st, env, S, s, (Good.step (rel := rVs X.K) g).mono fun ys H2 q2 => ?_⟩
    obtain ⟨wy, ad1, st1, _, x1, S1, ry, g1⟩ := q2
    exact g1.ok_ S1 ⟨x, ys, rfl, rx.ext S x1, ry⟩
theorem z_consS {es : List Expr} {cs : List Ar} {p : Pos} (ha : PE X e (rdE X.K WW (ev G cl ca))) (hb : PA X es (rdA X.K WW (evR G cl cs))) : PA X (.Starred e p :: es) (rdA X.K WW (evR G cl (.s ca :: cs))) :=
  (StX.pa_star ha hb rfl).imp fun σ H Q h => by
    obtain ⟨ad0, st0, env0, S0, s0, g0⟩ := rd_bind (rel := rV X.K) (m := ev G cl ca) (f := fun env w st1 => match items st1 w with
      | some xs => (evR G cl cs env st1).bind fun ws st2 => .ok (xs ++ ws) st2
      | none => .stuck) (by
      obtain ⟨ad, st, env, S, s, g⟩ := h
      exact ⟨ad, st, env, S, s, g⟩)
    refine ⟨ad0, st0, env0, S0, s0, g0.mono fun x H1 q => ?_⟩
    obtain ⟨wx, ad, env, st, S, s, rx, g⟩ := q
    split at g
    · rename_i xs hx
      obtain ⟨a, vs, rfl, rq, k⟩ := items_rel S rx hx
      refine ⟨a, vs, rfl, ?_, ad, st, env, S, s, (Good.step (rel := rVs X.K) g).mono fun ys H2 q2 => ?_⟩
      · rcases k with ⟨k, _⟩ | ⟨k, _⟩
        · exact .inr k
        · exact .inl k
      · obtain ⟨wy, ad1, st1, _, x1, S1, ry, g1⟩ := q2
        exact g1.ok_ S1 ((rq.ext S x1).append ry)
    · exact g.elim
theorem z_lsts {m : Bool} {es : List Expr} {cs : List Ar} {pos : Pos} (ha : PA X es (rdA X.K WW (evR G cl cs))) : PE X (.List es pos) (rdE X.K WW (ev G cl (.lsts m cs))) := (pe_lst ha).imp fun σ H Q h => by
  obtain ⟨ad0, st0, env0, S0, s0, g0⟩ := rd_bind (rel := rVs X.K) (m := evR G cl cs) (f := fun env ws st1 => prim (.lst m) ws st1) h
  refine ⟨ad0, st0, env0, S0, s0, g0.mono fun x H1 q => ?_⟩
  obtain ⟨wx, ad, env, st, S, s, r, g⟩ := q
  simp only [prim] at g
  split at g
  · rename_i hl
    exact ⟨by rw [← r.length]; exact Nat.le_trans hl szL_le, Good.new_mk S r g⟩
  · exact g.elim
/-- an instance made -/
theorem SimH.made {K : PySem.W.Frag} {ad : Ad} {H : Hp} {st : Sto} {x dx : Addr} {C : Str} (S : SimH K ad st H) (hx : H x = none) (hd : H dx = none) (ne : dx ≠ x) :
    SimH K (ad.add x) (st ++ [.ins C []]) (upd (upd H dx (.own x)) x (.ins (He.ga K C) dx [])) ∧ Ext ad (ad.add x) H (upd (upd H dx (.own x)) x (.ins (He.ga K C) dx [])) := by
  have S1 : SimH K ad st (upd H dx (.own x)) := S.side hd
  have hx1 : (upd H dx (.own x)) x = none := by rw [upd_ne ne.symm]; exact hx
  exact ⟨S1.alloc hx1 ⟨dx, [], upd_same, rfl⟩, (Ext.side hd).trans (Ext.alloc hx1)⟩
theorem make_sp {C f : Str} {K : PySem.W.Frag} {ad : Ad} {H : Hp} {st : Sto} {vs : List V} {ws : List W} {Q : VK} {E : XK} (S : SimH K ad st H) (r : RVs K ad H ws vs) (g : Good K (rV K) ad H ((cl f (.ref st.length :: ws) (st ++ [.ins C []])).bind fun r st2 => (match r with
      | .non => mkO (G.frz C) st st2
      | _ => .stuck)) Q E) : ∀ x dx, H x = Option.none → H dx = Option.none → dx ≠ x → spC K cl f (V.ref x :: vs) (upd (upd H dx (.own x)) x (.ins (He.ga K C) dx [])) (fun v H2 => v = .non ∧ Q (.ref x) H2) E := by
  intro x dx hx hd ne
  obtain ⟨S1, x1⟩ := SimH.made (C := C) S hx hd ne
  have e0 : (ad.add x).1[st.length]? = some x := by
    show (ad.1 ++ [x])[st.length]? = some x
    rw [← S.len, List.getElem?_append_right (Nat.le_refl _)]; simp
  refine ⟨_, _, .ref st.length :: ws, S1, RVs.cons ⟨x, e0, rfl⟩ (r.ext S x1), ?_⟩
  cases hr : cl f (.ref st.length :: ws) (st ++ [.ins C []]) with
  | stuck => rw [hr] at g; exact g.elim
  | err y st2 =>
    rw [hr] at g
    exact fun ad2 H2 c d x2 S2 rx => g ad2 H2 c d (x1.trans x2) S2 rx
  | ok a st2 =>
    rw [hr] at g
    simp only [R.bind] at g
    intro ad2 H2 v x2 S2 ra
    split at g
    · exact ⟨ra, Good.mkO S (x1.trans x2) S2 (x2.get e0) g⟩
    · exact g.elim
theorem z_mk {x f : Str} {es : List Expr} {cs : List Ar} {p pos : Pos} {k : Nat} (hi : G.init x = some f) (M : Mk X.K (He.ga X.K x) (adr G X.K f)) (F : FnG X.prog X.w X.K X.mg X.base (L2.CX X.prog X.w) k (adr G X.K f) (G.par f) (spC X.K cl f)) (hr : Rm (k + 1) X.A) (hg : Gl X x) (hm : X.mg x = some (.ref (He.ga X.K x))) (tk : Takes X WW)
    (ha : PA X (e :: es) (rdA X.K WW (evR G cl cs))) (he : noStar e = true) (hs : es.all noStar = true ∨ (backTo pos (starEach es X.env)).any (·.1) = true) (hdb : (x == ("__debug__" : Str)) = false) : PE X (.Call (.Name x p) (e :: es) [] pos) (rdE X.K WW (ev G cl (.mk x cs))) := by
  refine ⟨fun pins s σ H Q I h => ?_⟩
  have h2 : rdA X.K WW (evR G cl cs) σ H (fun vs H1 => ∀ x' dx, H1 x' = Option.none → H1 dx = Option.none → dx ≠ x' → spC X.K cl f (V.ref x' :: vs) (upd (upd H1 dx (.own x')) x' (.ins (He.ga X.K x) dx [])) (fun v H2 => v = .non ∧ Q (.ref x') H2) (WE WW σ)) := by
    obtain ⟨ad0, st0, env0, S0, s0, g0⟩ := rd_bind (rel := rVs X.K) (m := evR G cl cs) (f := fun env ws st1 => match G.init x with
      | some f => (cl f (.ref st1.length :: ws) (st1 ++ [.ins x []])).bind fun r st2 => (match r with
        | .non => mkO (G.frz x) st1 st2
        | _ => .stuck)
      | none => .stuck) h
    refine ⟨ad0, st0, env0, S0, s0, g0.mono fun v H1 q => ?_⟩
    obtain ⟨wx, ad, env, st, S, s, r, g⟩ := q
    rw [hi] at g
    exact make_sp S r g
  refine wpAny_Call_Name_kw (ld_glob I hg hm ?_ hdb)
  rcases hs with hs | hs
  · refine PySem.W.callWith_K (h₀ := X.base) I.ok.mod.kin M.kp (thn (ha.run pos pins s σ H _ I h2) fun us s1 ⟨vs, H1, I1, r, q⟩ => ⟨I1.kIn, ?_⟩) (star_cons he) (star_none hs)
    exact run_makeRS M F hr (passAt tk σ) I1 r q
  · refine PySem.W.callWith_S2 (h₀ := X.base) I.ok.mod.kin M.kp (thn (ha.run pos pins s σ H _ I h2) fun us s1 ⟨vs, H1, I1, r, q⟩ => ⟨I1.kIn, ?_⟩) (star_cons he) hs
    exact run_makeRS M F hr (passAt tk σ) I1 r q
/-! ### methods of built-in types -/
theorem recv_rel {o : Op} {T : String} {K : PySem.W.Frag} {ad : Ad} {H : Hp} {st : Sto} {w : W} {v : V} (S : SimH K ad st H) (r : RV K ad H w v) (hT : ((o = .append ∨ o = .extend) ∧ T = "list") ∨ ((o = .split ∨ o = .join ∨ o = .sindex) ∧ T = "str")) (h : recvOk o w st = true) : tyV K T v H := by
  unfold recvOk at h
  split at h
  · split at h
    · rename_i hst
      obtain ⟨a, h1, rfl⟩ := r
      obtain ⟨vs, k1, q1⟩ := S.obj _ _ _ h1 hst
      rcases hT with ⟨_, rfl⟩ | ⟨c, _⟩
      · exact .inl ⟨rfl, vs, SqL.of k1⟩
      · rcases c with c | c | c <;> cases c
    · cases h
  · split at h
    · rename_i hst
      obtain ⟨a, h1, rfl⟩ := r
      obtain ⟨vs, k1, q1⟩ := S.obj _ _ _ h1 hst
      rcases hT with ⟨_, rfl⟩ | ⟨c, _⟩
      · exact .inl ⟨rfl, vs, SqL.of k1⟩
      · rcases c with c | c | c <;> cases c
    · cases h
  · obtain rfl : v = _ := r
    rcases hT with ⟨c, _⟩ | ⟨_, rfl⟩
    · rcases c with c | c <;> cases c
    · rfl
  · obtain rfl : v = _ := r
    rcases hT with ⟨c, _⟩ | ⟨_, rfl⟩
    · rcases c with c | c <;> cases c
    · rfl
  · obtain rfl : v = _ := r
    rcases hT with ⟨c, _⟩ | ⟨_, rfl⟩
    · rcases c with c | c <;> cases c
    · rfl
  · cases h
theorem z_bm {o : Op} {T id : String} {name : Str} {r0 : Expr} {apos cpos : Pos} (hT : ((o = .append ∨ o = .extend) ∧ T = "list") ∨ ((o = .split ∨ o = .join ∨ o = .sindex) ∧ T = "str")) (pa : PlainAttrs T) (slot : Slot T name id) (hty : typeOf (.builtin id) = pure (.type "method_descriptor")) (hm : MtS X id (fun _ x xs H Q => rPm X.K o x xs H Q))
    (ho : PE X r0 (rdE X.K WW (ev G cl ca))) (ha : PE X a (rdE X.K WW (ev G cl cb))) (hsup : noSuper r0 = true) (hst : noStar a = true) (hline : (apos.endLine == cpos.line) = true) : PE X (.Call (.Attribute r0 name apos) [a] [] cpos) (rdE X.K WW (ev G cl (.bm o ca [cb]))) := by
  refine (pe_bmS pa slot hty hm ho (z_cons ha z_nil (star_cons hst)) (base_of hsup) (by rw [star_cons hst]; rfl) hline (star_cons hst) rfl).imp fun σ H Q h => ?_
  refine rdE_then (f := fun env x st0 => if recvOk o x st0 then (evs G cl [cb] env st0).bind fun ws st1 => prim o (x :: ws) st1 else .stuck) h fun v H1 ad env st w S s r g => ?_
  split at g
  · rename_i hok
    refine ⟨recv_rel S r hT hok, rdA_in S s g fun us H2 ad1 st1 ws x1 S1 rs g1 => ?_⟩
    exact ⟨ad1, st1, w :: ws, _, S1, RVs.cons (r.ext S x1) rs, g1⟩
  · exact g.elim
/-! ### slices -/
theorem z_slc00 {pos p2 : Pos} (ha : PE X a (rdE X.K WW (ev G cl ca))) : PE X (.Subscript a (.Slice none none none p2) pos) (rdE X.K WW (ev G cl (.op (.slc false false) [ca]))) :=
  (pe_slice or_cut ha po_none po_none).imp fun σ H Q h => rd_oneB h fun x H1 q => by
    obtain ⟨ad, st, w, E, S, r, g⟩ := q
    exact ⟨ad, st, w, E, S, r, g⟩
theorem slc1 {lo hi : Bool} {w i : W} {st : Sto} {K : PySem.W.Frag} {ad : Ad} {H : Hp} {Q : VK} {E : XK} (g : Good K (rV K) ad H (prim (.slc lo hi) [w, i] st) Q E) : ∃ n, i = .int n ∧ ((lo = true ∧ hi = false ∧ Good K (rV K) ad H (pCut (some n) none w st) Q E) ∨ (lo = false ∧ hi = true ∧ Good K (rV K) ad H (pCut none (some n) w st) Q E)) := by
  change Good _ _ _ _ (pSlc lo hi [w, i] st) _ _ at g
  unfold pSlc at g
  split at g
  · rename_i hh
    cases hh
  · rename_i hh
    cases hh
    exact ⟨_, rfl, .inl ⟨rfl, rfl, g⟩⟩
  · rename_i hh
    cases hh
    exact ⟨_, rfl, .inr ⟨rfl, rfl, g⟩⟩
  · rename_i hh
    cases hh
  · exact g.elim
theorem rd_two' {o : Op} {σ : L2.St} {H : Hp} {Q : VK} {B : V → Hp → Prop} (h : rdE X.K WW (ev G cl (.op o [ca, cb])) σ H Q) (hB : ∀ x H1, rdE X.K WW (ev G cl cb) σ H1 (fun y H2 => rP2 X.K o x y H2 Q) → B x H1) : rdE X.K WW (ev G cl ca) σ H B := by
  obtain ⟨ad, st, env, S, s, g⟩ := h
  rw [evs_two] at g
  have h2 := rd_two (WW := WW) (ma := ev G cl ca) (mb := ev G cl cb) (o := o) (σ := σ) (H := H) (Q := Q) (K := X.K) ⟨ad, st, env, S, s, g⟩
  obtain ⟨ad, st, env, S, s, g⟩ := h2
  exact ⟨ad, st, env, S, s, g.mono fun x H1 q => hB x H1 q⟩
theorem z_slc10 {pos p2 : Pos} (ha : PE X a (rdE X.K WW (ev G cl ca))) (hb : PE X b (rdE X.K WW (ev G cl cb))) : PE X (.Subscript a (.Slice (some b) none none p2) pos) (rdE X.K WW (ev G cl (.op (.slc true false) [ca, cb]))) :=
  (pe_slice or_cut ha (po_some hb) po_none).imp fun σ H Q h => rd_two' h fun x H1 q => by
    obtain ⟨ad, st, env, S, s, g⟩ := q
    refine ⟨ad, st, env, S, s, g.mono fun y H2 q2 => ?_⟩
    obtain ⟨ad, st, w1, w2, E, S, r1, r2, g⟩ := q2
    obtain ⟨n, rfl, c⟩ := slc1 g
    rcases c with ⟨_, _, g⟩ | ⟨c, _⟩
    · exact ⟨n, r2, ad, st, w1, E, S, r1, g⟩
    · cases c
theorem z_slc01 {pos p2 : Pos} (ha : PE X a (rdE X.K WW (ev G cl ca))) (hb : PE X b (rdE X.K WW (ev G cl cb))) : PE X (.Subscript a (.Slice none (some b) none p2) pos) (rdE X.K WW (ev G cl (.op (.slc false true) [ca, cb]))) :=
  (pe_slice or_cut ha po_none (po_some hb)).imp fun σ H Q h => rd_two' h fun x H1 q => by
    obtain ⟨ad, st, env, S, s, g⟩ := q
    refine ⟨ad, st, env, S, s, g.mono fun y H2 q2 => ?_⟩
    obtain ⟨ad, st, w1, w2, E, S, r1, r2, g⟩ := q2
    obtain ⟨n, rfl, c⟩ := slc1 g
    rcases c with ⟨c, _⟩ | ⟨_, _, g⟩
    · cases c
    · exact ⟨n, r2, ad, st, w1, E, S, r1, g⟩
theorem slc2 {w i j : W} {st : Sto} {K : PySem.W.Frag} {ad : Ad} {H : Hp} {Q : VK} {E : XK} (g : Good K (rV K) ad H (prim (.slc true true) [w, i, j] st) Q E) : ∃ n m, i = .int n ∧ j = .int m ∧ Good K (rV K) ad H (pCut (some n) (some m) w st) Q E := by
  change Good _ _ _ _ (pSlc true true [w, i, j] st) _ _ at g
  unfold pSlc at g
  split at g
  · rename_i hh
    cases hh
    exact ⟨_, _, rfl, rfl, g⟩
  · rename_i hh
    cases hh
  · rename_i hh
    cases hh
  · rename_i hh
    cases hh
  · exact g.elim
theorem z_slc11 {pos p2 : Pos} (ha : PE X a (rdE X.K WW (ev G cl ca))) (hb : PE X b (rdE X.K WW (ev G cl cb))) (hc : PE X c (rdE X.K WW (ev G cl cc))) : PE X (.Subscript a (.Slice (some b) (some c) none p2) pos) (rdE X.K WW (ev G cl (.cut ca cb cc))) :=
  (pe_slice or_cut ha (po_some hb) (po_some hc)).imp fun σ H Q h => by
    refine rdE_then (f := fun env x st1 => (ev G cl cb env st1).bind fun y st2 => match y with
      | .int _ => (ev G cl cc env st2).bind fun z st3 => prim (.slc true true) [x, y, z] st3
      | _ => .stuck) h fun v H1 ad env st w S s r g => ?_
    refine rdE_in S s g fun y H2 ad1 st1 wy x1 S1 ry g1 => ?_
    split at g1
    · rename_i n
      refine ⟨n, ry, rdE_in S1 (s.ext S x1) g1 fun z H3 ad2 st2 wz x2 S2 rz g2 => ?_⟩
      obtain ⟨n', m, e1, rfl, g3⟩ := slc2 g2
      cases e1
      exact ⟨m, rz, ad2, st2, w, _, S2, (r.ext S x1).ext S1 x2, g3⟩
    · exact g1.elim
end
end Zv

set_option maxRecDepth 100000
set_option maxHeartbeats 4000000
/-! Ev6: targets, what is walked, list comprehensions. -/
namespace Zv
open PySem PySem.Spec PyProof.Rows L2
mutual
def Tg.slots : Tg → List Nat
  | .nm i => [i]
  | .tp ts => Tg.slotss ts
def Tg.slotss : List Tg → List Nat
  | [] => []
  | t :: ts => Tg.slots t ++ Tg.slotss ts
end
theorem _root_.L2.PG.imp {X : Cx} {e : Expr} {t t' : TG} (h : PG X e t) (i : ∀ v σ H Q, t' v σ H Q → t v σ H Q) : PG X e t' := ⟨fun pins s σ H v u Q I r q => h.run pins s σ H v u Q I r (i v σ H Q q)⟩
theorem _root_.L2.PGs.imp {X : Cx} {e : List Expr} {t t' : TGs} (h : PGs X e t) (i : ∀ v σ H Q, t' v σ H Q → t v σ H Q) : PGs X e t' := ⟨fun pins s σ H v u Q I r q => h.run pins s σ H v u Q I r (i v σ H Q q)⟩
theorem _root_.L2.PI.imp {X : Cx} {tg e : Expr} {t t' : TI} (h : PI X tg e t) (i : ∀ σ H Q, t' σ H Q → t σ H Q) : PI X tg e t' := ⟨fun pins s σ H R I q => h.run pins s σ H R I (i σ H R q)⟩
def rdG (K : PySem.W.Frag) (t : Tg) : TG := fun v σ H Q => ∃ ad st env w env', SimH K ad st H ∧ SimS K ad H env σ ∧ RV K ad H w v ∧ t.put w env = some env' ∧ ∀ σ', SimS K ad H env' σ' → σ'.length = σ.length → (∀ i, i ∉ t.slots → σ'[i]? = σ[i]?) → Q σ' H
def rdGs (K : PySem.W.Frag) (ts : List Tg) : TGs := fun vs σ H Q => ∃ ad st env ws env', SimH K ad st H ∧ SimS K ad H env σ ∧ RVs K ad H ws vs ∧ Tg.puts ts ws env = some env' ∧ ∀ σ', SimS K ad H env' σ' → σ'.length = σ.length → (∀ i, i ∉ Tg.slotss ts → σ'[i]? = σ[i]?) → Q σ' H
section
variable {X : Cx} {WW : WX} {e a b c : Expr} {G : Prg} {cl : Cl} {ca cb cc : Ex}
theorem z_nm {i : Nat} {x : Str} {pos : Pos} (hN : X.N.Nodup) (hi : X.N[i]? = some x) (hx : Loc X.env.scope x) (hf : X.fn x = true ∨ X.env.scope.names.lookup x = some .local) : PG X (.Name x pos) (rdG X.K (.nm i)) := (pg_name hN hi hx hf).imp fun v σ H Q h => by
  obtain ⟨ad, st, env, w, env', S, s, r, hp, q⟩ := h
  cases hp
  refine q _ (s.set r i) (by simp) fun j hj => ?_
  have hne : i ≠ j := fun z => hj (by rw [z]; simp [Tg.slots])
  rw [List.getElem?_set_ne hne]
theorem z_gnil : PGs X [] (rdGs X.K []) := pgs_nil.imp fun vs σ H Q h => by
  obtain ⟨ad, st, env, ws, env', S, s, r, hp, q⟩ := h
  cases ws with
  | nil =>
    cases hp
    exact ⟨r, q σ s rfl fun _ _ => rfl⟩
  | cons w ws => cases hp
theorem z_gcons {es : List Expr} {t : Tg} {ts : List Tg} (h1 : PG X e (rdG X.K t)) (h2 : PGs X es (rdGs X.K ts)) (hp : PGs X (e :: es) (gCons (rdG X.K t) (rdGs X.K ts))) : PGs X (e :: es) (rdGs X.K (t :: ts)) := hp.imp fun vs σ H Q h => by
  obtain ⟨ad, st, env, ws, env', S, s, r, hp, q⟩ := h
  cases ws with
  | nil => cases hp
  | cons w ws =>
    obtain ⟨v, vs', rfl, r1, r2⟩ := r
    simp only [Tg.puts] at hp
    split at hp
    · rename_i env1 h1
      refine ⟨v, vs', rfl, ad, st, env, w, env1, S, s, r1, h1, fun σ1 s1 l1 k1 => ?_⟩
      refine ⟨ad, st, env1, ws, env', S, s1, r2, hp, fun σ2 s2 l2 k2 => q σ2 s2 (l2.trans l1) fun i hi => ?_⟩
      simp only [Tg.slotss, List.mem_append, not_or] at hi
      rw [k2 i hi.2, k1 i hi.1]
    · cases hp
theorem z_tp {es : List Expr} {ts : List Tg} {t : TG} (hp : ∀ {n : TGs}, PGs X es n → PG X e (gTup X.K es.length n)) (hl : es.length = ts.length) (h : PGs X es (rdGs X.K ts)) : PG X e (rdG X.K (.tp ts)) := (hp h).imp fun v σ H Q h => by
  obtain ⟨ad, st, env, w, env', S, s, r, hp, q⟩ := h
  cases w with
  | tup ws =>
    obtain ⟨a, vs, rfl, h1, h2⟩ := r
    simp only [Tg.put] at hp
    refine ⟨a, vs, rfl, h1, ?_, ad, st, env, ws, env', S, s, h2, hp, q⟩
    have : ∀ (ts : List Tg) (ws : List W) (env env' : En), Tg.puts ts ws env = some env' → ts.length = ws.length := by
      intro ts
      induction ts with
      | nil => intro ws env env' h; cases ws with
        | nil => rfl
        | cons _ _ => cases h
      | cons t ts ih =>
        intro ws env env' h
        cases ws with
        | nil => cases h
        | cons w ws =>
          simp only [Tg.puts] at h
          split at h
          · simp [ih _ _ _ h]
          · cases h
    rw [← h2.length, hl, this _ _ _ _ hp]
  | _ => cases hp
/-! ### what is walked -/
structure Wk (K : PySem.W.Frag) (ad0 : Ad) (H0 : Hp) (J : L2.It) (I : Itm) : Prop where
  go : ∀ ad st H i, Ext ad0 ad H0 H → SimH K ad st H → I.chk st = true → i < I.xs.length → J.go i H
  stop : ∀ ad st H i, Ext ad0 ad H0 H → SimH K ad st H → I.chk st = true → I.xs.length ≤ i → i ≤ I.xs.length → J.stop i H
  yld : ∀ ad st H i x H', Ext ad0 ad H0 H → SimH K ad st H → I.chk st = true → i < I.xs.length → J.yld i H x H' → Ext ad ad H H' ∧ SimH K ad st H' ∧ ∃ w, I.xs[i]? = some w ∧ RV K ad H' w x
abbrev relI (K : PySem.W.Frag) : Ad → Hp → Itm → L2.It → Prop := fun ad H I J => Wk K ad H J I
theorem chk_at {K : PySem.W.Frag} {ad : Ad} {st : Sto} {H : Hp} {I : Itm} {i : Nat} {a : Addr} {xs : List W} (h : I.chk st = true) (hm : (i, xs) ∈ I.at_) (S : SimH K ad st H) (ha : ad.1[i]? = some a) : ∃ vs, SqL K H a vs ∧ RVs K ad H xs vs := by
  unfold Itm.chk at h
  rw [List.all_eq_true] at h
  have h2 := h _ hm
  dsimp only at h2
  split at h2
  · rename_i ys hy
    obtain rfl := W.beqs_eq h2
    obtain ⟨a', vs, e, q, k⟩ := items_rel (K := K) (ad := ad) (H := H) (w := .ref i) (v := .ref a) S (show RV K ad H (.ref i) (.ref a) from ⟨a, ha, rfl⟩) hy
    cases e
    rcases k with ⟨k, _⟩ | ⟨_, k⟩
    · exact ⟨vs, k, q⟩
    · cases k
  · cases h2
/-- the sequence w at v, later -/
theorem seq_at {K : PySem.W.Frag} {ad0 ad : Ad} {H0 H : Hp} {st0 st : Sto} {w : W} {a : Addr} {xs : List W} {I : Itm} (S0 : SimH K ad0 st0 H0) (r0 : RV K ad0 H0 w (.ref a)) (hx : items st0 w = some xs) (hw : ∀ p ∈ wat w xs, p ∈ I.at_) (x : Ext ad0 ad H0 H) (S : SimH K ad st H) (hc : I.chk st = true) :
    ∃ vs, RVs K ad H xs vs ∧ ((SqL K H a vs ∧ ∀ ys, w ≠ .tup ys) ∨ (SqT K H a vs ∧ w = .tup xs)) := by
  cases w with
  | tup ys =>
    have r := r0.ext S0 x
    obtain ⟨a', vs, e, h1, h2⟩ := r
    cases e
    cases hx
    exact ⟨vs, h2, .inr ⟨h1, rfl⟩⟩
  | fzl ys =>
    have r := r0.ext S0 x
    obtain ⟨a', vs, e, h1, h2⟩ := r
    cases e
    cases hx
    exact ⟨vs, h2, .inl ⟨h1.sq, fun _ z => by cases z⟩⟩
  | vl ys =>
    have r := r0.ext S0 x
    obtain ⟨a', vs, e, h1, _, h2⟩ := r
    cases e
    cases hx
    exact ⟨vs, h2, .inl ⟨SqL.of h1, fun _ z => by cases z⟩⟩
  | ref i =>
    obtain ⟨a', h1, e⟩ := r0
    cases e
    obtain ⟨vs, k, q⟩ := chk_at (xs := xs) hc (hw (i, xs) (by simp [wat])) S (x.get h1)
    exact ⟨vs, q, .inl ⟨k, fun _ z => by cases z⟩⟩
  | _ => cases hx
theorem rvs_get2 {K : PySem.W.Frag} {ad : Ad} {H : Hp} {ws : List W} {vs : List V} {i : Nat} {v : V} (r : RVs K ad H ws vs) (h : vs[i]? = some v) : ∃ w, ws[i]? = some w ∧ RV K ad H w v := by
  have hi : i < vs.length := (List.getElem?_eq_some_iff.mp h).1
  rw [← r.length] at hi
  obtain ⟨v', h1, h2⟩ := r.get (List.getElem?_eq_getElem hi)
  rw [h] at h1
  cases h1
  exact ⟨_, List.getElem?_eq_getElem hi, h2⟩
/-- a walk over a list or tuple at a, told by what stands there -/
theorem wk_list {K : PySem.W.Frag} {ad0 : Ad} {H0 : Hp} {st0 : Sto} {w : W} {a : Addr} {xs : List W} (S0 : SimH K ad0 st0 H0) (r0 : RV K ad0 H0 w (.ref a)) (hx : items st0 w = some xs) (kt : ∀ ys, w ≠ .tup ys) : Wk K ad0 H0 (Itl K a) ⟨xs, wat w xs⟩ := by
  refine ⟨fun ad2 st2 H2 i x2 S2 c2 hi => ?_, fun ad2 st2 H2 i x2 S2 c2 hi => ?_, fun ad2 st2 H2 i x H' x2 S2 c2 hi hy => ?_⟩
  · obtain ⟨us, ru, ku⟩ := seq_at S0 r0 hx (fun p hp => hp) x2 S2 c2
    rcases ku with ⟨ku, _⟩ | ⟨_, z⟩
    · obtain ⟨v, hv, _⟩ := ru.get (List.getElem?_eq_getElem hi)
      exact ⟨us, v, ku, hv⟩
    · exact absurd z (kt _)
  · obtain ⟨us, ru, ku⟩ := seq_at S0 r0 hx (fun p hp => hp) x2 S2 c2
    rcases ku with ⟨ku, _⟩ | ⟨_, z⟩
    · exact fun _ => ⟨us, ku, by rw [← ru.length]; exact hi⟩
    · exact absurd z (kt _)
  · obtain ⟨us, ru, ku⟩ := seq_at S0 r0 hx (fun p hp => hp) x2 S2 c2
    rcases ku with ⟨ku, _⟩ | ⟨_, z⟩
    · obtain ⟨rfl, hy⟩ := hy
      obtain ⟨w, h1, h2⟩ := rvs_get2 ru (hy us ku)
      exact ⟨Ext.refl, S2, w, h1, h2⟩
    · exact absurd z (kt _)
theorem wk_tup {K : PySem.W.Frag} {ad0 : Ad} {H0 : Hp} {st0 : Sto} {a : Addr} {xs : List W} (S0 : SimH K ad0 st0 H0) (r0 : RV K ad0 H0 (.tup xs) (.ref a)) : Wk K ad0 H0 (Itt K a) ⟨xs, []⟩ := by
  refine ⟨fun ad2 st2 H2 i x2 S2 c2 hi => ?_, fun ad2 st2 H2 i x2 S2 c2 hi => ?_, fun ad2 st2 H2 i x H' x2 S2 c2 hi hy => ?_⟩
  · obtain ⟨a', us, e, ku, ru⟩ := r0.ext S0 x2
    cases e
    obtain ⟨v, hv, _⟩ := ru.get (List.getElem?_eq_getElem hi)
    exact ⟨us, v, ku, hv⟩
  · obtain ⟨a', us, e, ku, ru⟩ := r0.ext S0 x2
    cases e
    exact fun _ => ⟨us, ku, by rw [← ru.length]; exact hi⟩
  · obtain ⟨a', us, e, ku, ru⟩ := r0.ext S0 x2
    cases e
    obtain ⟨rfl, hy⟩ := hy
    obtain ⟨w, h1, h2⟩ := rvs_get2 ru (hy us ku)
    exact ⟨Ext.refl, S2, w, h1, h2⟩
theorem wk_str {K : PySem.W.Frag} {ad0 : Ad} {H0 : Hp} {z : Str} : Wk K ad0 H0 (Its z) ⟨z.cps.toList.map fun c => .str ⟨#[c]⟩, []⟩ := by
  refine ⟨fun ad st H i _ _ _ hi => ?_, fun ad st H i _ _ _ hi => ?_, fun ad st H i x H' _ S _ hi hy => ?_⟩
  · simpa [Its] using hi
  · intro _; simpa [Its] using hi
  · obtain ⟨rfl, c, hc, rfl⟩ := hy
    refine ⟨Ext.refl, S, .str ⟨#[c]⟩, ?_, rfl⟩
    rw [List.getElem?_map, Array.getElem?_toList, hc]
    rfl
theorem z_seq {tg : Expr} (ha : PE X a (rdE X.K WW (ev G cl ca))) : PI X tg a (rdM X.K WW (relI X.K) (evI G cl (.seq ca))) := by
  refine ⟨fun pins s σ H R I h => ?_⟩
  obtain ⟨ad, st, env, S, ss, g⟩ := h
  change Good _ _ _ _ ((ev G cl ca env st).bind seqItm) _ _ at g
  cases hr : ev G cl ca env st with
  | ok w st1 =>
    rw [hr] at g
    change Good _ _ _ _ (seqItm w st1) _ _ at g
    by_cases c1 : ∃ z, w = .str z
    · obtain ⟨z, rfl⟩ := c1
      refine (pi_str ha).run pins s σ H R I ⟨ad, st, env, S, ss, ?_⟩
      rw [hr]
      intro ad' H' v x' S' r'
      simp only [seqItm] at g
      split at g
      · exact ⟨z, r', (g.ext x').ok_ S' wk_str⟩
      · exact g.elim
    · have e : seqItm w st1 = (match items st1 w with
        | some xs => .ok ⟨xs, wat w xs⟩ st1
        | none => .stuck) := by
        unfold seqItm
        split
        · exact absurd ⟨_, rfl⟩ c1
        · rfl
      rw [e] at g
      split at g
      · rename_i xs hx
        by_cases c2 : ∃ ys, w = .tup ys
        · obtain ⟨ys, rfl⟩ := c2
          cases hx
          refine (pi_tup ha).run pins s σ H R I ⟨ad, st, env, S, ss, ?_⟩
          rw [hr]
          intro ad' H' v x' S' r'
          obtain ⟨a, vs, rfl, h1, h2⟩ := id r'
          exact ⟨a, rfl, ⟨vs, h1⟩, (g.ext x').ok_ S' (wk_tup S' r')⟩
        · refine (pi_list ha).run pins s σ H R I ⟨ad, st, env, S, ss, ?_⟩
          rw [hr]
          intro ad' H' v x' S' r'
          obtain ⟨a, vs, rfl, q, k⟩ := items_rel S' r' hx
          rcases k with ⟨k, kt⟩ | ⟨_, kt⟩
          · exact ⟨a, rfl, ⟨vs, k⟩, (g.ext x').ok_ S' (wk_list S' r' hx kt)⟩
          · exact absurd ⟨_, kt⟩ c2
      · exact g.elim
  | err x st1 =>
    rw [hr] at g
    exact (pi_list ha).run pins s σ H R I ⟨ad, st, env, S, ss, by rw [hr]; exact g⟩
  | stuck => rw [hr] at g; exact g.elim
theorem wk_rng {K : PySem.W.Frag} {ad0 : Ad} {H0 : Hp} {lo : Int} {n : Nat} : Wk K ad0 H0 (Itr lo n) ⟨rngW lo n, []⟩ := by
  have hl : (rngW lo n).length = n := by simp [rngW]
  refine ⟨fun ad st H i _ _ _ hi => ?_, fun ad st H i _ _ _ hi => ?_, fun ad st H i x H' _ S _ hi hy => ?_⟩
  · rw [hl] at hi; exact hi
  · rw [hl] at hi; exact fun _ => hi
  · obtain ⟨rfl, rfl⟩ := hy
    rw [hl] at hi
    refine ⟨Ext.refl, S, .int (lo + i), ?_, rfl⟩
    simp [rngW, List.getElem?_map, List.getElem?_range hi]
theorem z_rng1 {tg : Expr} {p pos : Pos} (hg : Gl X "range") (hm : X.mg "range" = none) (ha : PE X a (rdE X.K WW (ev G cl ca))) (hs : noStar a = true) : PI X tg (.Call (.Name "range" p) [a] [] pos) (rdM X.K WW (relI X.K) (evI G cl (.rng1 ca))) :=
  (pi_range1 hg hm (pa_cons ha pa_nil (star_cons hs)) (star_cons hs)).imp fun σ H R h => by
    obtain ⟨ad0, st0, env0, S0, s0, g0⟩ := rd_bind (rel := rV X.K) (m := ev G cl ca) (f := fun _ => rngItm1) h
    refine ⟨ad0, st0, env0, S0, s0, g0.mono fun v H1 q => ?_⟩
    obtain ⟨w, ad, env, st, S, s, r, g⟩ := q
    unfold rngItm1 at g
    split at g
    · rename_i n
      split at g
      · rename_i hn
        have hn' := of_decide_eq_true hn
        obtain rfl : v = _ := r
        exact ⟨n, rfl, by omega, by omega, g.ok_ S wk_rng⟩
      · exact g.elim
    · exact g.elim
theorem z_rng2 {tg : Expr} {p pos : Pos} (hg : Gl X "range") (hm : X.mg "range" = none) (ha : PE X a (rdE X.K WW (ev G cl ca))) (hb : PE X b (rdE X.K WW (ev G cl cb))) (hs : noStar a = true) (hs2 : noStar b = true) : PI X tg (.Call (.Name "range" p) [a, b] [] pos) (rdM X.K WW (relI X.K) (evI G cl (.rng2 ca cb))) :=
  (pi_range2 hg hm (pa_cons ha (pa_cons hb pa_nil (star_cons hs2)) (star_cons hs)) (by rw [star_cons hs, star_cons hs2]; rfl) (star_cons hs2)).imp fun σ H R h => by
    obtain ⟨ad0, st0, env0, S0, s0, g0⟩ := rd_bind (rel := rV X.K) (m := ev G cl ca) (f := fun env x st1 => (ev G cl cb env st1).bind fun y st2 => rngItm2 x y st2) h
    refine ⟨ad0, st0, env0, S0, s0, g0.mono fun v H1 q => ?_⟩
    obtain ⟨w, ad, env, st, S, s, r, g⟩ := q
    refine ⟨ad, st, env, S, s, (Good.step (rel := rV X.K) g).mono fun y H2 q2 => ?_⟩
    obtain ⟨wy, ad1, st1, hev, x1, S1, ry, g1⟩ := q2
    clear hev
    unfold rngItm2 at g1
    split at g1
    · rename_i i j
      split at g1
      · rename_i hn
        simp only [inL, Bool.and_eq_true, decide_eq_true_eq] at hn
        obtain rfl : v = _ := r
        obtain rfl : y = _ := ry
        exact ⟨i, j, rfl, ⟨by omega, by omega, by omega, by omega⟩, g1.ok_ S1 wk_rng⟩
      · exact g1.elim
    · exact g1.elim
theorem wk_rngD {K : PySem.W.Frag} {ad0 : Ad} {H0 : Hp} {lo : Int} {n : Nat} : Wk K ad0 H0 (Itc lo (-1) n) ⟨rngD lo n, []⟩ := by
  have hl : (rngD lo n).length = n := by simp [rngD]
  refine ⟨fun ad st H i _ _ _ hi => ?_, fun ad st H i _ _ _ hi => ?_, fun ad st H i x H' _ S _ hi hy => ?_⟩
  · rw [hl] at hi; exact hi
  · rw [hl] at hi; exact fun _ => hi
  · obtain ⟨rfl, rfl⟩ := hy
    rw [hl] at hi
    refine ⟨Ext.refl, S, .int (lo - i), ?_, ?_⟩
    · simp [rngD, List.getElem?_map, List.getElem?_range hi]
    · show V.int (lo + (i : Int) * (-1)) = V.int (lo - i)
      congr 1
      omega
theorem z_rng3 {tg : Expr} {p pos : Pos} (hg : Gl X "range") (hm : X.mg "range" = none) (ha : PE X a (rdE X.K WW (ev G cl ca))) (hb : PE X b (rdE X.K WW (ev G cl cb))) (hc : PE X c (rdE X.K WW (ev G cl cc))) (hs : noStar a = true) (hs2 : noStar b = true) (hs3 : noStar c = true) : PI X tg (.Call (.Name "range" p) [a, b, c] [] pos) (rdM X.K WW (relI X.K) (evI G cl (.rng3 ca cb cc))) :=
  (pi_range3 hg hm (pa_cons ha (pa_cons hb (pa_cons hc pa_nil (star_cons hs3)) (star_cons hs2)) (star_cons hs)) (star_cons hs) (by rw [star_cons hs2, star_cons hs3]; rfl)).imp fun σ H R h => by
    obtain ⟨ad0, st0, env0, S0, s0, g0⟩ := rd_bind (rel := rV X.K) (m := ev G cl ca) (f := fun env x st1 => (ev G cl cb env st1).bind fun y st2 => (ev G cl cc env st2).bind fun z st3 => rngItm3 x y z st3) h
    refine ⟨ad0, st0, env0, S0, s0, g0.mono fun v H1 q => ?_⟩
    obtain ⟨w, ad, env, st, S, s, r, g⟩ := q
    refine ⟨ad, st, env, S, s, (Good.step (rel := rV X.K) g).mono fun y H2 q2 => ?_⟩
    obtain ⟨wy, ad1, st1, hev, x1, S1, ry, g1⟩ := q2
    clear hev
    have s1 := s.ext S x1
    refine ⟨ad1, st1, env, S1, s1, (Good.step (rel := rV X.K) g1).mono fun z H3 q3 => ?_⟩
    obtain ⟨wz, ad2, st2, hev, x2, S2, rz, g2⟩ := q3
    clear hev
    unfold rngItm3 at g2
    split at g2
    · rename_i i j k
      split at g2
      · rename_i hn
        simp only [inL, Bool.and_eq_true, decide_eq_true_eq] at hn
        obtain ⟨h1, h2, rfl⟩ := hn
        obtain rfl : v = _ := r
        obtain rfl : y = _ := ry
        obtain rfl : z = _ := rz
        exact ⟨i, j, -1, (i - j).toNat, rfl, RgC.neg (by omega) (by omega) (by omega) (by omega), g2.ok_ S2 wk_rngD⟩
      · exact g2.elim
    · exact g2.elim
theorem enum_len : ∀ (k : Nat) (xs : List W), (enumW k xs).length = xs.length
  | _, [] => rfl
  | k, x :: xs => by simp [enumW, enum_len (k + 1) xs]
theorem enum_get : ∀ (k : Nat) (xs : List W) (i : Nat) (x : W), xs[i]? = some x → (enumW k xs)[i]? = some (.tup [.int ((k + i : Nat) : Int), x])
  | _, [], _, _, h => by simp at h
  | k, y :: xs, 0, x, h => by
    simp at h
    subst h
    rfl
  | k, y :: xs, i + 1, x, h => by
    have := enum_get (k + 1) xs i x (by simpa using h)
    simp only [enumW, List.getElem?_cons_succ]
    rw [this]
    congr 4
    omega
theorem z_enumL {elts : List Expr} {kk : Nat} {tpos p pos : Pos} (hg : Gl X "enumerate") (hm : X.mg "enumerate" = none) (ha : PE X a (rdE X.K WW (ev G cl ca))) (hs : noStar a = true)
    (hT : PI X (.Tuple elts kk tpos) (.Call (.Name "enumerate" p) [a] [] pos) (fun σ H R => rdE X.K WW (ev G cl ca) σ H fun v H1 => ∃ b xs, [v] = [V.ref b] ∧ SqT X.K H1 b xs ∧ R ⟨fun i H => ∃ (xs : List V) (x : V), SqT X.K H b xs ∧ xs[i]? = some x, fun i H v H' => ∃ T x, v = .ref T ∧ H T = none ∧ H' = upd H T (.tup [.int (i : Nat), x]) ∧ ∀ xs, SqT X.K H b xs → xs[i]? = some x, fun i H => ∃ xs : List V, SqT X.K H b xs ∧ xs.length ≤ i⟩ H1)) :
    PI X (.Tuple elts kk tpos) (.Call (.Name "enumerate" p) [a] [] pos) (rdM X.K WW (relI X.K) (evI G cl (.enum ca))) := by
  refine ⟨fun pins s σ H R I h => ?_⟩
  obtain ⟨ad, st, env, S, ss, g⟩ := h
  change Good _ _ _ _ ((ev G cl ca env st).bind enumItm) _ _ at g
  cases hr : ev G cl ca env st with
  | ok w st1 =>
    rw [hr] at g
    change Good _ _ _ _ (enumItm w st1) _ _ at g
    unfold enumItm at g
    split at g
    · rename_i xs hx
      by_cases c2 : ∃ ys, w = .tup ys
      · obtain ⟨ys, rfl⟩ := c2
        cases hx
        refine hT.run pins s σ H R I ⟨ad, st, env, S, ss, ?_⟩
        rw [hr]
        intro ad' H' v x' S' r'
        obtain ⟨b, vs, rfl, h1, h2⟩ := id r'
        refine ⟨b, vs, rfl, h1, (g.ext x').ok_ S' ?_⟩
        refine ⟨fun ad2 st2 H2 i x2 S2 c2 hi => ?_, fun ad2 st2 H2 i x2 S2 c2 hi => ?_, fun ad2 st2 H2 i x H3 x2 S2 c2 hi hy => ?_⟩
        · obtain ⟨a', us, e, ku, ru⟩ := r'.ext S' x2
          cases e
          rw [enum_len] at hi
          obtain ⟨v, hv, _⟩ := ru.get (List.getElem?_eq_getElem hi)
          exact ⟨us, v, ku, hv⟩
        · obtain ⟨a', us, e, ku, ru⟩ := r'.ext S' x2
          cases e
          rw [enum_len] at hi
          exact fun _ => ⟨us, ku, by rw [← ru.length]; exact hi⟩
        · obtain ⟨a', us, e, ku, ru⟩ := r'.ext S' x2
          cases e
          obtain ⟨T, x, rfl, hT0, rfl, hy⟩ := hy
          obtain ⟨w, h1, h2⟩ := rvs_get2 ru (hy us ku)
          exact ⟨Ext.side hT0, S2.side hT0, _, enum_get 0 _ i w h1, T, _, rfl, SqT.of upd_same, RVs.cons (show RV _ _ _ (.int ((0 + i : Nat) : Int)) _ from by rw [Nat.zero_add]; rfl) (RVs.one (h2.ext S2 (Ext.side hT0)))⟩
      · refine (pi_enum hg hm (pa_cons ha pa_nil (star_cons hs)) (star_cons hs)).run pins s σ H R I ⟨ad, st, env, S, ss, ?_⟩
        rw [hr]
        intro ad' H' v x' S' r'
        obtain ⟨b, vs, rfl, q, k⟩ := items_rel S' r' hx
        rcases k with ⟨k, kt⟩ | ⟨_, kt⟩
        · refine ⟨b, vs, rfl, k, (g.ext x').ok_ S' ?_⟩
          refine ⟨fun ad2 st2 H2 i x2 S2 c2 hi => ?_, fun ad2 st2 H2 i x2 S2 c2 hi => ?_, fun ad2 st2 H2 i x H3 x2 S2 c2 hi hy => ?_⟩
          · obtain ⟨us, ru, ku⟩ := seq_at (I := ⟨enumW 0 xs, wat w xs⟩) S' r' hx (fun p hp => hp) x2 S2 c2
            rw [enum_len] at hi
            rcases ku with ⟨ku, _⟩ | ⟨_, z⟩
            · obtain ⟨v, hv, _⟩ := ru.get (List.getElem?_eq_getElem hi)
              exact ⟨us, v, ku, hv⟩
            · exact absurd z (kt _)
          · obtain ⟨us, ru, ku⟩ := seq_at (I := ⟨enumW 0 xs, wat w xs⟩) S' r' hx (fun p hp => hp) x2 S2 c2
            rw [enum_len] at hi
            rcases ku with ⟨ku, _⟩ | ⟨_, z⟩
            · exact fun _ => ⟨us, ku, by rw [← ru.length]; exact hi⟩
            · exact absurd z (kt _)
          · obtain ⟨us, ru, ku⟩ := seq_at (I := ⟨enumW 0 xs, wat w xs⟩) S' r' hx (fun p hp => hp) x2 S2 c2
            rcases ku with ⟨ku, _⟩ | ⟨_, z⟩
            · obtain ⟨T, x, rfl, hT0, rfl, hy⟩ := hy
              obtain ⟨w', h1, h2⟩ := rvs_get2 ru (hy us ku)
              refine ⟨Ext.side hT0, S2.side hT0, _, enum_get 0 xs i w' h1, T, _, rfl, SqT.of upd_same, RVs.cons (show RV _ _ _ (.int ((0 + i : Nat) : Int)) _ from by rw [Nat.zero_add]; rfl) (RVs.one (h2.ext S2 (Ext.side hT0)))⟩
            · exact absurd z (kt _)
        · exact absurd ⟨_, kt⟩ c2
    · exact g.elim
  | err x st1 =>
    rw [hr] at g
    exact hT.run pins s σ H R I ⟨ad, st, env, S, ss, by rw [hr]; exact g⟩
  | stuck => rw [hr] at g; exact g.elim
/-! ### list comprehensions -/
abbrev relB : Ad → Hp → Bool → Bool → Prop := fun _ _ b c => b = c
abbrev W0 : WX := fun _ _ _ _ => False
theorem z_c0 : PTs X [] (rdM X.K W0 relB (evC G cl [])) := ⟨fun pins s σ H Q I h => pts_nil.run pins s σ H Q I (by
  obtain ⟨ad, st, env, S, ss, g⟩ := h
  exact g.ok_ S rfl)⟩
theorem z_c1 (h : PT X c (tB (rdE X.K W0 (ev G cl cc)))) : PTs X [c] (rdM X.K W0 relB (evC G cl [cc])) := ⟨fun pins s σ H Q I q => (pts_one h).run pins s σ H Q I (by
  obtain ⟨ad0, st0, env0, S0, s0, g0⟩ := rd_bind (rel := rV X.K) (m := ev G cl cc) (f := fun env w st1 => match w with
    | .bl true => evC G cl [] env st1
    | .bl false => .ok false st1
    | _ => .stuck) q
  refine ⟨ad0, st0, env0, S0, s0, g0.mono fun v H1 q => ?_⟩
  obtain ⟨w, ad, env, st, S, s, r, g⟩ := q
  split at g
  · exact ⟨true, r, g.ok_ S rfl⟩
  · exact ⟨false, r, g.ok_ S rfl⟩
  · exact g.elim)⟩
theorem wipe_same {σ σ' : L2.St} (hl : σ'.length = σ.length) : ∀ (vs : List Nat), (∀ i, i ∉ vs → σ'[i]? = σ[i]?) → L2.wipe σ' vs = L2.wipe σ vs := by
  have key : ∀ (vs : List Nat) (σ : L2.St) (i : Nat), (L2.wipe σ vs)[i]? = if i ∈ vs then (if i < σ.length then some none else none) else σ[i]? := by
    intro vs
    induction vs with
    | nil => intro σ i; simp [L2.wipe]
    | cons v vs ih =>
      intro σ i
      simp only [L2.wipe]
      by_cases h : v = i
      · subst h
        simp only [List.mem_cons, true_or, if_true]
        by_cases hi : v < σ.length
        · rw [List.getElem?_set_self (by rw [wipe_length]; exact hi), if_pos hi]
        · rw [List.getElem?_eq_none (by simp [wipe_length]; omega), if_neg hi]
      · rw [List.getElem?_set_ne h, ih]
        have : (i ∈ v :: vs) ↔ i ∈ vs := by simp [Ne.symm h]
        simp only [this]
  intro vs h
  apply List.ext_getElem?
  intro i
  rw [key, key, hl]
  split
  · rfl
  · exact h i (by assumption)
theorem wipe_wipe {σ : L2.St} (vs : List Nat) : L2.wipe (L2.wipe σ vs) vs = L2.wipe σ vs := by
  have : ∀ i, i ∉ vs → (L2.wipe σ vs)[i]? = σ[i]? := by
    intro i
    induction vs with
    | nil => intro _; rfl
    | cons v vs ih =>
      intro h
      simp only [List.mem_cons, not_or] at h
      simp only [L2.wipe]
      rw [List.getElem?_set_ne (Ne.symm h.1), ih h.2]
  exact wipe_same (wipe_length _ _) vs this
theorem rd_lc {m : Bool} {it : It} {tg : Tg} {own : List Nat} {cs : List Ex} {ce : Ex} {σ : L2.St} {H : Hp} {Q : VK} (hown : ∀ i ∈ tg.slots, i ∈ own) (h : rdE X.K WW (ev G cl (.lc m tg own it cs ce)) σ H Q) :
    tLc (rdM X.K WW (relI X.K) (evI G cl it)) (rdG X.K tg) (rdM X.K W0 relB (evC G cl cs)) (rdE X.K W0 (ev G cl ce)) own σ H Q := by
  obtain ⟨ad0, st0, env0, S0, s0, g0⟩ := rd_bind (rel := relI X.K) (m := evI G cl it) (f := fun env I st1 => if I.xs.length ≤ szL then
      noErr ((lcRun (lcBody tg (wipeE env own) (fun env' st2 => evC G cl cs env' st2) (fun env' st3 => ev G cl ce env' st3)) I I.xs [] st1).bind fun ws st5 => mkL m ws st5) else .stuck) h
  refine ⟨ad0, st0, env0, S0, s0, g0.mono fun J H1 q => ?_⟩
  obtain ⟨I, ad1, env, st1, S1, s1, wk, g⟩ := q
  intro D hD
  split at g
  · rename_i hlen
    let f := lcBody tg (wipeE env own) (fun env' st2 => evC G cl cs env' st2) (fun env' st3 => ev G cl ce env' st3)
    refine ⟨fun i n H2 => ∃ ad st acc vacc, i + n = I.xs.length ∧ acc.length ≤ i ∧ Ext ad1 ad H1 H2 ∧ SimH X.K ad st H2 ∧ D ∈ ad.2 ∧ H2 D = some (.lst vacc) ∧ RVs X.K ad H2 acc vacc ∧
      Good X.K (rV X.K) ad1 H1 (noErr ((lcRun f I (I.xs.drop i) acc st).bind fun ws st5 => mkL m ws st5)) Q (fun cls d H' => WW cls d σ H'), ?_, ?_⟩
    · exact ⟨I.xs.length, (ad1.1, D :: ad1.2), st1, [], [], by omega, Nat.le_refl _, Ext.begin hD, S1.begin hD, by simp, upd_same, rfl, g⟩
    · rintro i n H2 ⟨ad, st, acc, vacc, him, hacc, x2, S2, nD, eD, ra, g2⟩
      by_cases hi : i < I.xs.length
      · have hd : I.xs.drop i = I.xs[i] :: I.xs.drop (i + 1) := List.drop_eq_getElem_cons hi
        rw [hd] at g2
        simp only [lcRun] at g2
        split at g2
        · rename_i hchk
          refine .inr ⟨wk.go ad st H2 i x2 S2 hchk hi, fun H' => ∃ ad st acc vacc, i + 1 + (n - 1) = I.xs.length ∧ acc.length ≤ i + 1 ∧ Ext ad1 ad H1 H' ∧ SimH X.K ad st H' ∧ D ∈ ad.2 ∧ H' D = some (.lst vacc) ∧ RVs X.K ad H' acc vacc ∧
            Good X.K (rV X.K) ad1 H1 (noErr ((lcRun f I (I.xs.drop (i + 1)) acc st).bind fun ws st5 => mkL m ws st5)) Q (fun cls d H' => WW cls d σ H'), fun H' hN => ⟨n - 1, by omega, hN⟩, fun x H3 hy => ?_⟩
          obtain ⟨x3, S3, w, hw, rw_⟩ := wk.yld ad st H2 i x H3 x2 S2 hchk hi hy
          have hw' : w = I.xs[i] := by
            rw [List.getElem?_eq_getElem hi] at hw
            exact (Option.some.inj hw).symm
          subst hw'
          have eD3 : H3 D = some (.lst vacc) := x3.old _ _ (S2.res D nD).1 eD
          -- the turn's run
          have fdef : f I.xs[i] st = (match Tg.put tg I.xs[i] (wipeE env own) with
            | some env' => (evC G cl cs env' st).bind fun b st3 => if b then (gcR true st3 (ev G cl ce env' st3)).bind fun w st4 => .ok (some w) st4 else .ok none st3
            | none => .stuck) := rfl
          rw [fdef] at g2
          cases hp : Tg.put tg I.xs[i] (wipeE env own) with
          | none => rw [hp] at g2; exact g2.elim
          | some env' =>
            rw [hp] at g2
            simp only at g2
            refine ⟨ad, st, wipeE env own, I.xs[i], env', S3, ((s1.ext S1 (x2.trans x3)).wipe own), rw_, hp, fun σ2 s2 l2 k2 => ⟨?_, ?_⟩⟩
            · rw [wipe_same l2 own (fun j hj => k2 j (fun z => hj (hown j z))), wipe_wipe]
            · refine ⟨ad, st, env', S3, s2, ?_⟩
              cases hc : evC G cl cs env' st with
              | stuck => rw [hc] at g2; exact g2.elim
              | err x st3 => rw [hc] at g2; exact g2.elim
              | ok b st3 =>
                rw [hc] at g2
                simp only [R.bind] at g2
                intro ad4 H4 b' x4 S4 eb
                obtain rfl : b = b' := eb
                have nD4 : D ∈ ad4.2 := x4.sub nD
                have eD4 : H4 D = some (.lst vacc) := x4.old _ _ (S3.res D nD).1 eD3
                cases b with
                | false =>
                  exact ⟨ad4, st3, acc, vacc, by omega, by omega, (x2.trans x3).trans x4, S4, nD4, eD4, (ra.ext S2 x3).ext S3 x4, g2⟩
                | true =>
                  simp only [if_true] at g2
                  refine ⟨ad4, st3, env', S4, s2.ext S3 x4, Good.gc (keep := true) S4 ?_⟩
                  cases he : gcR true st3 (ev G cl ce env' st3) with
                  | stuck => rw [he] at g2; exact g2.elim
                  | err x st5 => rw [he] at g2; exact g2.elim
                  | ok u st5 =>
                    rw [he] at g2
                    simp only [R.bind] at g2
                    intro ad5 H5 y x5 S5 ry
                    have nD5 : D ∈ ad5.2 := x5.sub nD4
                    have eD5 : H5 D = some (.lst vacc) := x5.old _ _ (S4.res D nD4).1 eD4
                    have ra5 := ((ra.ext S2 x3).ext S3 x4).ext S4 x5
                    refine ⟨vacc, eD5, ?_, ad5, st5, acc ++ [u], vacc ++ [y], by omega, by simp; omega, ?_, ?_, nD5, upd_same, ?_, g2⟩
                    · rw [← ra.length]
                      have : szL < sizeLine := by decide
                      omega
                    · have xx := ((x2.trans x3).trans x4).trans x5
                      refine ⟨xx.pre, xx.res, fun b o nb hb => ?_, xx.new⟩
                      have hne : b ≠ D := fun z => by rw [z, hD] at hb; cases hb
                      rw [upd_ne hne]
                      exact xx.old b o nb hb
                    · exact SimH.side2 eD5 nD5 S5
                    · exact RVs.side eD5 nD5 (ra5.append (RVs.one ry))
        · exact g2.elim
      · have e0 : I.xs.drop i = [] := List.drop_eq_nil_of_le (by omega)
        rw [e0] at g2
        simp only [lcRun] at g2
        split at g2
        · rename_i hchk
          refine .inl ⟨wk.stop ad st H2 i x2 S2 hchk (by omega) (by omega), ?_⟩
          have hr1 : ∀ b ∈ ad1.2, b ∈ ad.2 := fun b m => x2.sub m
          have fr : D ∉ ad1.2 := S1.freeR hD
          obtain ⟨l, r⟩ := ad
          cases m with
          | true =>
            simp only [R.bind, mkL, if_true, new, noErr] at g2
            refine g2 (l ++ [D], ad1.2) H2 (.ref D) ?_ (S2.take eD nD fr hr1 ra) ⟨D, ?_, rfl⟩
            · refine ⟨x2.pre.trans (List.prefix_append _ _), ⟨[], rfl, fun _ h => nomatch h⟩, x2.old, fun b hb nb => ?_⟩
              rcases List.mem_append.mp hb with hb | hb
              · exact x2.new b hb nb
              · rw [List.mem_singleton.mp hb]; exact hD
            · show (l ++ [D])[st.length]? = some D
              have hl : l.length = st.length := S2.len
              rw [← hl, List.getElem?_append_right (Nat.le_refl _)]
              simp
          | false =>
            simp only [R.bind, mkL, Bool.false_eq_true, if_false, noErr] at g2
            exact g2 (l, ad1.2) H2 (.ref D) ⟨x2.pre, ⟨[], rfl, fun _ h => nomatch h⟩, x2.old, x2.new⟩ (S2.over hr1) ⟨D, vacc, rfl, eD, ⟨(S2.res D nD).1, fr⟩, ra.over hr1⟩
        · exact g2.elim
  · exact g.elim
end
end Zv

set_option maxRecDepth 100000
set_option maxHeartbeats 4000000
/-! Ev7: statements. -/
namespace Zv
open PySem PySem.Spec PyProof.Rows L2
def GoodS (K : PySem.W.Frag) (WW : WX) (ad : Ad) (H : Hp) (r : RS) (D : Ends) : Prop :=
  match r with
  | .fl (.nx env') st' => ∀ ad' H' σ', Ext ad ad' H H' → SimH K ad' st' H' → SimS K ad' H' env' σ' → D.nx σ' H'
  | .fl (.rt w) st' => ∀ ad' H' v, Ext ad ad' H H' → SimH K ad' st' H' → RV K ad' H' w v → D.rt v H'
  | .fl (.bk env') st' => ∀ ad' H' σ', Ext ad ad' H H' → SimH K ad' st' H' → SimS K ad' H' env' σ' → D.bk σ' H'
  | .fl (.ct env') st' => ∀ ad' H' σ', Ext ad ad' H H' → SimH K ad' st' H' → SimS K ad' H' env' σ' → D.ct σ' H'
  | .er x env' st' => ∀ ad' H' σ' cls d, Ext ad ad' H H' → SimH K ad' st' H' → SimS K ad' H' env' σ' → RX K ad' H' x cls d → WW cls d σ' H'
  | .stuck => False
def rdS (K : PySem.W.Frag) (WW : WX) (m : En → Sto → RS) : TS := fun D σ H => ∃ ad st env, SimH K ad st H ∧ SimS K ad H env σ ∧ GoodS K WW ad H (m env st) D
section
variable {K : PySem.W.Frag} {WW : WX} {ad ad' : Ad} {H H' : Hp} {st : Sto} {D : Ends} {r : RS}
theorem GoodS.ext (x : Ext ad ad' H H') (h : GoodS K WW ad H r D) : GoodS K WW ad' H' r D := by
  cases r with
  | fl f st' =>
    cases f with
    | nx env => exact fun a b c x2 => h a b c (x.trans x2)
    | rt w => exact fun a b c x2 => h a b c (x.trans x2)
    | bk env => exact fun a b c x2 => h a b c (x.trans x2)
    | ct env => exact fun a b c x2 => h a b c (x.trans x2)
  | er e env st' => exact fun a b c d f x2 => h a b c d f (x.trans x2)
  | stuck => exact h
/-- an expression's run, then the rest of the statement -/
theorem GoodS.of {α β : Type} {rel : Ad → Hp → α → β → Prop} {m : R α} {f : α → Sto → RS} {env : En} {σ : L2.St} (S : SimH K ad st H) (s : SimS K ad H env σ) (h : GoodS K WW ad H (RS.of env m f) D) :
    Good K rel ad H m (fun v H1 => ∃ a ad1 st1, m = .ok a st1 ∧ Ext ad ad1 H H1 ∧ SimH K ad1 st1 H1 ∧ SimS K ad1 H1 env σ ∧ rel ad1 H1 a v ∧ GoodS K WW ad1 H1 (f a st1) D) (fun cls d H' => WW cls d σ H') := by
  cases m with
  | ok a st1 => exact fun ad1 H1 v x S1 r => ⟨a, ad1, st1, rfl, x, S1, s.ext S x, r, GoodS.ext x h⟩
  | err e st1 => exact fun ad1 H1 cls d x S1 r => h ad1 H1 σ cls d x S1 (s.ext S x) r
  | stuck => exact h
theorem GoodS.nx_ {env : En} {σ : L2.St} (h : GoodS K WW ad H (.fl (.nx env) st) D) (S : SimH K ad st H) (s : SimS K ad H env σ) : D.nx σ H := h ad H σ Ext.refl S s
theorem rdS_of {α β : Type} {rel : Ad → Hp → α → β → Prop} {m : En → Sto → R α} {f : En → α → Sto → RS} {σ : L2.St} (h : rdS K WW (fun env st => RS.of env (m env st) (f env)) D σ H) :
    rdM K WW rel m σ H (fun v H1 => ∃ a ad env st, SimH K ad st H1 ∧ SimS K ad H1 env σ ∧ rel ad H1 a v ∧ GoodS K WW ad H1 (f env a st) D) := by
  obtain ⟨ad, st, env, S, s, g⟩ := h
  refine ⟨ad, st, env, S, s, (GoodS.of (rel := rel) S s g).mono fun v H1 q => ?_⟩
  obtain ⟨a, ad1, st1, _, x, S1, s1, r, g1⟩ := q
  exact ⟨a, ad1, env, st1, S1, s1, r, g1⟩
end
section
variable {X : Cx} {WW : WX} {e a b c : Expr} {G : Prg} {cl : Cl} {ca cb cc : Ex} {pos : Pos}
theorem z_ssnil : PSs X [] (rdS X.K WW (exs G cl [])) := pss_nil.imp fun D σ H h => by
  obtain ⟨ad, st, env, S, s, g⟩ := h
  exact g.nx_ S s
theorem GoodS.seq {K : PySem.W.Frag} {ad : Ad} {H : Hp} {D : Ends} {r : RS} {f : En → Sto → RS} (h : GoodS K WW ad H (r.next f) D) : GoodS K WW ad H r { D with nx := rdS K WW f D } := by
  cases r with
  | fl fl st' =>
    cases fl with
    | nx env => exact fun ad' H' σ' x S s => ⟨ad', st', env, S, s, GoodS.ext x h⟩
    | rt w => exact h
    | bk env => exact h
    | ct env => exact h
  | er e env st' => exact h
  | stuck => exact h
theorem z_sscons {s0 : Stmt} {ss : List Stmt} {cs : Sm} {css : List Sm} (h1 : PS X s0 (rdS X.K WW (ex G cl cs))) (h2 : PSs X ss (rdS X.K WW (exs G cl css))) : PSs X (s0 :: ss) (rdS X.K WW (exs G cl (cs :: css))) := (pss_cons h1 h2).imp fun D σ H h => by
  obtain ⟨ad, st, env, S, s, g⟩ := h
  exact ⟨ad, st, env, S, s, GoodS.seq (f := exs G cl css) g⟩
theorem z_exp (he : PE X e (rdE X.K WW (ev G cl ca))) (hs : swapsWith e none pos.line X.env = pure false) : PS X (.Expr e pos) (rdS X.K WW (ex G cl (.exp ca))) := (ps_expr he hs).imp fun D σ H h => by
  obtain ⟨ad, st, env, S, s, g⟩ := rdS_of (rel := rV X.K) (m := ev G cl ca) (f := fun env _ st1 => .fl (.nx env) st1) h
  refine ⟨ad, st, env, S, s, g.mono fun v H1 q => ?_⟩
  obtain ⟨w, ad, env, st, S, s, r, g⟩ := q
  exact g.nx_ S s
theorem z_ret (he : PE X e (rdE X.K WW (ev G cl ca))) : PS X (.Return (some e) pos) (rdS X.K WW (ex G cl (.ret ca))) := (ps_ret he).imp fun D σ H h => by
  obtain ⟨ad, st, env, S, s, g⟩ := rdS_of (rel := rV X.K) (m := ev G cl ca) (f := fun env w st1 => .fl (.rt w) st1) h
  refine ⟨ad, st, env, S, s, g.mono fun v H1 q => ?_⟩
  obtain ⟨w, ad, env, st, S, s, r, g⟩ := q
  exact g ad H1 v Ext.refl S r
theorem z_retn : PS X (.Return none pos) (rdS X.K WW (ex G cl .retn)) := ps_retN.imp fun D σ H h => by
  obtain ⟨ad, st, env, S, s, g⟩ := h
  exact g ad H .non Ext.refl S rfl
theorem z_pass : PS X (.Pass pos) (rdS X.K WW (ex G cl .pass)) := ps_pass.imp fun D σ H h => by
  obtain ⟨ad, st, env, S, s, g⟩ := h
  exact g.nx_ S s
theorem z_brk : PS X (.Break pos) (rdS X.K WW (ex G cl .brk)) := ps_break.imp fun D σ H h => by
  obtain ⟨ad, st, env, S, s, g⟩ := h
  exact g ad H σ Ext.refl S s
theorem z_cont : PS X (.Continue pos) (rdS X.K WW (ex G cl .cont)) := ps_continue.imp fun D σ H h => by
  obtain ⟨ad, st, env, S, s, g⟩ := h
  exact g ad H σ Ext.refl S s
theorem z_never {s0 : Stmt} : PS X s0 (rdS X.K WW (ex G cl .never)) := ps_never.imp fun D σ H h => by
  obtain ⟨ad, st, env, S, s, g⟩ := h
  exact g
theorem truS_good {K : PySem.W.Frag} {ad : Ad} {H : Hp} {w : W} {x : V} {A B : RS} {D : Ends} (r : RV K ad H w x) (g : GoodS K WW ad H (truS w A B) D) : ∃ c, x = .bl c ∧ GoodS K WW ad H (if c = true then A else B) D := by
  unfold truS at g
  split at g
  · exact ⟨true, r, g⟩
  · exact ⟨false, r, g⟩
  · exact g.elim
theorem z_if {s1 s2 : List Stmt} {c1 c2 : List Sm} (hc : PT X c (tB (rdE X.K WW (ev G cl cc)))) (h1 : PSs X s1 (rdS X.K WW (exs G cl c1))) (h2 : PSs X s2 (rdS X.K WW (exs G cl c2))) : PS X (.If c s1 s2 pos) (rdS X.K WW (ex G cl (.ife cc c1 c2))) := (ps_if hc h1 h2).imp fun D σ H h => by
  obtain ⟨ad, st, env, S, s, g⟩ := rdS_of (rel := rV X.K) (m := ev G cl cc) (f := fun env w st1 => truS w (exs G cl c1 env st1) (exs G cl c2 env st1)) h
  refine ⟨ad, st, env, S, s, g.mono fun v H1 q => ?_⟩
  obtain ⟨w, ad, env, st, S, s, r, g⟩ := q
  obtain ⟨k, rfl, g⟩ := truS_good r g
  refine ⟨k, rfl, ?_⟩
  cases k with
  | true => exact ⟨ad, st, env, S, s, g⟩
  | false => exact ⟨ad, st, env, S, s, g⟩
theorem z_set {i : Nat} {x : Str} {pos' : Pos} (hN : X.N.Nodup) (hi : X.N[i]? = some x) (hx : Loc X.env.scope x) (he : PE X e (rdE X.K WW (ev G cl ca))) (hs : swapsWith e (some (.Name x pos')) pos.line X.env = pure false) (hf : X.fn x = true ∨ X.env.scope.names.lookup x = some .local) :
    PS X (.Assign [.Name x pos'] e pos) (rdS X.K WW (ex G cl (.set i ca))) := (ps_set hN hi hx he hs hf).imp fun D σ H h => by
  obtain ⟨ad, st, env, S, s, g⟩ := rdS_of (rel := rV X.K) (m := ev G cl ca) (f := fun env w st1 => .fl (.nx (env.set i (some w))) st1) h
  refine ⟨ad, st, env, S, s, g.mono fun v H1 q => ?_⟩
  obtain ⟨w, ad, env, st, S, s, r, g⟩ := q
  exact g.nx_ S (s.set r i)
theorem z_setLc {m : Bool} {i : Nat} {y : Str} {py spos : Pos} {elt tg iter : Expr} {ifs : List Expr} {scope : Scope} {own : List (Str × Nat)} {t : Tg} {it : It} {cs : List Ex} {ce : Ex} (hc : X.calm = true) (hN : X.N.Nodup) (hy : X.N[i]? = some y) (hyl : X.env.scope.names.lookup y = some .local)
    (hsw : swapsWith (.ListComp elt [⟨tg, iter, ifs, 0⟩] scope pos) (some (.Name y py)) spos.line X.env = pure true) (hi : PI X tg iter (rdM X.K WW (relI X.K) (evI G cl it))) (ok : BlkOk X.N X.env.scope scope own) (hown : ∀ i ∈ t.slots, i ∈ own.map (·.2))
    (hg : ∀ (s : Shared) (H : Hp) (C : Addr) (cl : List (Str × Addr)) (fp : List Addr), PG (X.blk s H scope (compEnvC scope cl C X.env) fp) tg (rdG X.K t)) (ht : ∀ (s : Shared) (H : Hp) (C : Addr) (cl' : List (Str × Addr)) (fp : List Addr), PTs (X.blk s H scope (compEnvC scope cl' C X.env) fp) ifs (rdM X.K W0 relB (evC G cl cs)))
    (he : ∀ (s : Shared) (H : Hp) (C : Addr) (cl' : List (Str × Addr)) (fp : List Addr), PE (X.blk s H scope (compEnvC scope cl' C X.env) fp) elt (rdE X.K W0 (ev G cl ce))) (hs : ∀ x, foldedSetIterable iter X.env x = pure x) :
    PS X (.Assign [.Name y py] (.ListComp elt [⟨tg, iter, ifs, 0⟩] scope pos) spos) (rdS X.K WW (ex G cl (.set i (.lc m t (own.map (·.2)) it cs ce)))) := (ps_setLc hc hN hy hyl hsw hi ok hg ht he hs).imp fun D σ H h => by
  refine rd_lc (WW := WW) (m := m) hown ?_
  obtain ⟨ad, st, env, S, s, g⟩ := rdS_of (rel := rV X.K) (m := ev G cl (.lc m t (own.map (·.2)) it cs ce)) (f := fun env w st1 => .fl (.nx (env.set i (some w))) st1) h
  refine ⟨ad, st, env, S, s, g.mono fun v H1 q => ?_⟩
  obtain ⟨w, ad, env, st, S, s, r, g⟩ := q
  exact g.nx_ S (s.set r i)
theorem z_lc {m : Bool} {elt tg iter : Expr} {ifs : List Expr} {scope : Scope} {own : List (Str × Nat)} {t : Tg} {it : It} {cs : List Ex} {ce : Ex} (hc : X.calm = true) (hN : X.N.Nodup)
    (hi : PI X tg iter (rdM X.K WW (relI X.K) (evI G cl it))) (ok : BlkOk X.N X.env.scope scope own) (hown : ∀ i ∈ t.slots, i ∈ own.map (·.2))
    (hg : ∀ (s : Shared) (H : Hp) (C : Addr) (cl : List (Str × Addr)) (fp : List Addr), PG (X.blk s H scope (compEnvC scope cl C X.env) fp) tg (rdG X.K t)) (ht : ∀ (s : Shared) (H : Hp) (C : Addr) (cl' : List (Str × Addr)) (fp : List Addr), PTs (X.blk s H scope (compEnvC scope cl' C X.env) fp) ifs (rdM X.K W0 relB (evC G cl cs)))
    (he : ∀ (s : Shared) (H : Hp) (C : Addr) (cl' : List (Str × Addr)) (fp : List Addr), PE (X.blk s H scope (compEnvC scope cl' C X.env) fp) elt (rdE X.K W0 (ev G cl ce))) (hs : ∀ x, foldedSetIterable iter X.env x = pure x) :
    PE X (.ListComp elt [⟨tg, iter, ifs, 0⟩] scope pos) (rdE X.K WW (ev G cl (.lc m t (own.map (·.2)) it cs ce))) := (pe_lc hc hN hi ok hg ht he hs).imp fun σ H Q h => rd_lc hown h
theorem z_unp {tg : Expr} {t : Tg} (he : PE X e (rdE X.K WW (ev G cl ca))) (hg : PG X tg (rdG X.K t)) (hs : swapsWithSole [tg] e pos.line X.env = pure false) (hw : swappedStores [tg] e X.env = pure none) (h1 : (assignEach [tg] X.env).map (·.2) = [assign tg X.env]) :
    PS X (.Assign [tg] e pos) (rdS X.K WW (ex G cl (.unp t ca))) := (ps_asg he hg hs hw h1).imp fun D σ H h => by
  obtain ⟨ad, st, env, S, s, g⟩ := rdS_of (rel := rV X.K) (m := ev G cl ca) (f := fun env w st1 => match Tg.put t w env with
    | some env' => .fl (.nx env') st1
    | none => .stuck) h
  refine ⟨ad, st, env, S, s, g.mono fun v H1 q => ?_⟩
  obtain ⟨w, ad, env, st, S, s, r, g⟩ := q
  split at g
  · rename_i env' hp
    exact ⟨ad, st, env, w, env', S, s, r, hp, fun σ' s' _ _ => g.nx_ S s'⟩
  · exact g.elim
theorem z_sub {o i : Expr} {co ci : Ex} {p : Pos} (he : PE X e (rdE X.K WW (ev G cl ca))) (ho : PE X o (rdE X.K WW (ev G cl co))) (hi : PE X i (rdE X.K WW (ev G cl ci))) (hs : swapsWithSole [.Subscript o i p] e pos.line X.env = pure false) (hw : swappedStores [.Subscript o i p] e X.env = pure none)
    (ha : ∀ v, assign (.Subscript o i p) X.env v = (do
      let ov ← holding [v] (eval o X.env)
      let iv ← holding [v, ov] (eval i X.env)
      standAt p
      holding [v, ov, iv] (setItem ov iv v)
      release [v, ov, iv] [])) :
    PS X (.Assign [.Subscript o i p] e pos) (rdS X.K WW (ex G cl (.sub co ci ca))) := (ps_asg he (pg_sub ho hi set_list ha) hs hw rfl).imp fun D σ H h => by
  obtain ⟨ad, st, env, S, s, g⟩ := rdS_of (rel := rV X.K) (m := ev G cl ca) (f := fun env w st1 => .of env (ev G cl co env st1) fun x st2 => .of env (ev G cl ci env st2) fun y st3 => match x, y with
    | .ref a, .int k => (match st3[a]? with
      | some (.lst xs) => (match L2.ixN xs.length k with
        | some j => .fl (.nx env) (st3.set a (.lst (xs.set j w)))
        | none => .stuck)
      | _ => .stuck)
    | _, _ => .stuck) h
  refine ⟨ad, st, env, S, s, g.mono fun v H1 q => ?_⟩
  obtain ⟨w, ad, env, st, S, s, r, g⟩ := q
  refine ⟨ad, st, env, S, s, (GoodS.of (rel := rV X.K) S s g).mono fun x H2 q => ?_⟩
  obtain ⟨wx, ad2, st2, hev0, x2, S2, s2, rx, g2⟩ := q
  clear hev0
  refine ⟨ad2, st2, env, S2, s2, (GoodS.of (rel := rV X.K) S2 s2 g2).mono fun y H3 q => ?_⟩
  obtain ⟨wy, ad3, st3, hev, x3, S3, s3, ry, g3⟩ := q
  clear hev
  split at g3
  · rename_i ia k
    split at g3
    · rename_i xs hxs
      split at g3
      · rename_i j hj
        have rx3 := rx.ext S2 x3
        obtain ⟨p, h1, rfl⟩ := rx3
        obtain rfl : y = _ := ry
        obtain ⟨vs, k1, q1⟩ := S3.obj _ _ _ h1 hxs
        have rw3 := (r.ext S x2).ext S2 x3
        refine ⟨p, vs, k, j, rfl, rfl, k1, by rw [← q1.length]; exact hj, ?_⟩
        have xw : Ext ad3 ad3 H3 (upd H3 p (.lst (vs.set j v))) := Ext.write h1
        exact g3 ad3 _ σ xw (S3.write h1 ⟨_, upd_same, (q1.set j rw3).ext S3 xw⟩) (s3.ext S3 xw)
      · exact g3.elim
    · exact g3.elim
  · exact g3.elim
theorem z_unpS {o i : Expr} {co ci : Ex} {p px pt : Pos} {x : Str} {j kk : Nat} (hc : X.calm = true) (nd : X.N.Nodup) (hj : X.N[j]? = some x) (hx : Loc X.env.scope x) (hf : X.fn x = true ∨ X.env.scope.names.lookup x = some .local)
    (he : PE X e (rdE X.K WW (ev G cl ca))) (ho : PE X o (rdE X.K WW (ev G cl co))) (hi : PE X i (rdE X.K WW (ev G cl ci))) (hs : swapsWithSole [.Tuple [.Subscript o i p, .Name x px] kk pt] e pos.line X.env = pure false) (hw : swappedStores [.Tuple [.Subscript o i p, .Name x px] kk pt] e X.env = pure none)
    (has : ∀ v, assign (.Subscript o i p) X.env v = (do
      let ov ← holding [v] (eval o X.env)
      let iv ← holding [v, ov] (eval i X.env)
      standAt p
      holding [v, ov, iv] (setItem ov iv v)
      release [v, ov, iv] [])) :
    PS X (.Assign [.Tuple [.Subscript o i p, .Name x px] kk pt] e pos) (rdS X.K WW (ex G cl (.unpS co ci j ca))) :=
  (ps_asg he (pg_tup (n := 2) hc (pgs_cons (pg_sub ho hi set_list has) (pgs_cons (pg_name nd hj hx hf) pgs_nil rfl) rfl) rfl rfl) hs hw rfl).imp fun D σ H h => by
  obtain ⟨ad, st, env, S, s, g⟩ := rdS_of (rel := rV X.K) (m := ev G cl ca) (f := fun env w st1 => match w with
    | .tup [w1, w2] => .of env (ev G cl co env st1) fun x st2 => .of env (ev G cl ci env st2) fun y st3 => (match x, y with
      | .ref a, .int k => (match st3[a]? with
        | some (.lst xs) => (match L2.ixN xs.length k with
          | some n => .fl (.nx (env.set j (some w2))) (st3.set a (.lst (xs.set n w1)))
          | none => .stuck)
        | _ => .stuck)
      | _, _ => .stuck)
    | _ => .stuck) h
  refine ⟨ad, st, env, S, s, g.mono fun v H1 q => ?_⟩
  obtain ⟨w, ad, env, st, S, s, r, g⟩ := q
  split at g
  · rename_i w1 w2
    obtain ⟨a, vs, rfl, sq, rvs⟩ := r
    obtain ⟨v1, v2, rfl, r1, r2⟩ := rvs_two rvs
    refine ⟨a, [v1, v2], rfl, sq, rfl, v1, [v2], rfl, ?_⟩
    refine ⟨ad, st, env, S, s, (GoodS.of (rel := rV X.K) S s g).mono fun x H2 q => ?_⟩
    obtain ⟨wx, ad2, st2, hev0, x2, S2, s2, rx, g2⟩ := q
    clear hev0
    refine ⟨ad2, st2, env, S2, s2, (GoodS.of (rel := rV X.K) S2 s2 g2).mono fun y H3 q => ?_⟩
    obtain ⟨wy, ad3, st3, hev, x3, S3, s3, ry, g3⟩ := q
    clear hev
    split at g3
    · rename_i ia k
      split at g3
      · rename_i xs hxs
        split at g3
        · rename_i n hn
          have rx3 := rx.ext S2 x3
          obtain ⟨b, h1, rfl⟩ := rx3
          obtain rfl : y = _ := ry
          obtain ⟨vs, k1, q1⟩ := S3.obj _ _ _ h1 hxs
          have rw1 := (r1.ext S x2).ext S2 x3
          have rw2 := (r2.ext S x2).ext S2 x3
          refine ⟨b, vs, k, n, rfl, rfl, k1, by rw [← q1.length]; exact hn, ?_⟩
          have xw : Ext ad3 ad3 H3 (upd H3 b (.lst (vs.set n v1))) := Ext.write h1
          refine ⟨v2, [], rfl, rfl, ?_⟩
          exact g3 ad3 _ _ xw (S3.write h1 ⟨_, upd_same, (q1.set n rw1).ext S3 xw⟩) ((s3.ext S3 xw).set (rw2.ext S3 xw) j)
        · exact g3.elim
      · exact g3.elim
    · exact g3.elim
  · exact g.elim
theorem RK.put {K : PySem.W.Frag} {ad : Ad} {H : Hp} {f : Str} {w : W} {v : V} (r : RV K ad H w v) : ∀ {ws : List (Str × W)} {vs : List (Str × V)}, RK K ad H ws vs → RK K ad H (putF f w ws) (L2.putF f v vs)
  | [], _, h => by rw [show _ = [] from h]; exact ⟨v, [], rfl, r, rfl⟩
  | (g, x) :: ws, _, h => by
    obtain ⟨y, t, rfl, h1, h2⟩ := h
    simp only [putF, L2.putF]
    split
    · rename_i hg
      subst hg
      exact ⟨v, t, rfl, r, h2⟩
    · exact ⟨y, _, rfl, h1, RK.put r h2⟩
theorem RK.length {κ : Type} {K : PySem.W.Frag} {ad : Ad} {H : Hp} : ∀ {ws : List (κ × W)} {vs : List (κ × V)}, RK K ad H ws vs → ws.length = vs.length
  | [], _, h => by rw [show _ = [] from h]; rfl
  | w :: ws, vs, h => by
    obtain ⟨v, r, rfl, h1, h2⟩ := h
    simp [RK.length h2]
theorem z_fldS {o : Expr} {co : Ex} {f : Str} {p : Pos} (hf : ∀ C, G.fldOk C f = true → Cls X.K (He.ga X.K C) ∧ NoAttr X.K (He.ga X.K C) f) (he : PE X e (rdE X.K WW (ev G cl ca))) (ho : PE X o (rdE X.K WW (ev G cl co))) (hs : swapsWith e (some (.Attribute o f p)) pos.line X.env = pure false) :
    PS X (.Assign [.Attribute o f p] e pos) (rdS X.K WW (ex G cl (.fld co f ca))) := (ps_fld ho he hs).imp fun D σ H h => by
  obtain ⟨ad, st, env, S, s, g⟩ := rdS_of (rel := rV X.K) (m := ev G cl ca) (f := fun env w st1 => .of env (ev G cl co env st1) fun x st2 => match x with
    | .ref i => (match st2[i]? with
      | some (.ins C fs) => if fs.length < 900 && G.fldOk C f then .fl (.nx env) (st2.set i (.ins C (putF f w fs))) else .stuck
      | _ => .stuck)
    | _ => .stuck) h
  refine ⟨ad, st, env, S, s, g.mono fun v H1 q => ?_⟩
  obtain ⟨w, ad, env, st, S, s, r, g⟩ := q
  refine ⟨ad, st, env, S, s, (GoodS.of (rel := rV X.K) S s g).mono fun x H2 q => ?_⟩
  obtain ⟨wx, ad2, st2, hev, x2, S2, s2, rx, g2⟩ := q
  clear hev
  split at g2
  · rename_i i
    split at g2
    · rename_i C fs hst
      split at g2
      · rename_i hok
        simp only [Bool.and_eq_true, decide_eq_true_eq] at hok
        obtain ⟨a, h1, rfl⟩ := rx
        obtain ⟨dx, vs, k1, q1⟩ := S2.obj _ _ _ h1 hst
        refine ⟨a, _, dx, vs, rfl, k1, (hf C hok.2).1, (hf C hok.2).2, by rw [← RK.length q1]; omega, ?_⟩
        have xw : Ext ad2 ad2 H2 (upd H2 a (.ins (He.ga X.K C) dx (L2.putF f v vs))) := Ext.write h1
        exact g2 ad2 _ σ xw (S2.write h1 ⟨dx, _, upd_same, RK.ext S2 xw (RK.put (r.ext S x2) q1)⟩) (s2.ext S2 xw)
      · exact g2.elim
    · exact g2.elim
  · exact g2.elim
theorem z_aug {i : Nat} {x : Str} {op : Operator} {sub : Bool} {pos' : Pos} (ho : PIp X op (ipI fun a b => if sub then a - b else a + b)) (hN : X.N.Nodup) (hi : X.N[i]? = some x) (hx : Loc X.env.scope x) (he : PE X e (rdE X.K WW (ev G cl ca))) (hf : X.fn x = true ∨ X.env.scope.names.lookup x = some .local) :
    PS X (.AugAssign (.Name x pos') op e pos) (rdS X.K WW (ex G cl (.aug i sub ca))) := (ps_aug hN hi hx he ho hf).imp fun D σ H h => by
  obtain ⟨ad, st, env, S, s, g⟩ := h
  simp only [ex] at g
  split at g
  · rename_i w hw
    obtain ⟨v, h1, r1⟩ := s.at_ i w hw
    refine ⟨v, h1, ad, st, env, S, s, (GoodS.of (rel := rV X.K) S s g).mono fun y H1 q => ?_⟩
    obtain ⟨wy, ad1, st1, hev, x1, S1, s1, ry, g1⟩ := q
    clear hev
    unfold augRun at g1
    split at g1
    · rename_i m n
      have r2 := r1.ext S x1
      exact ⟨m, n, r2, ry, g1.nx_ S1 (s1.set (show RV X.K ad1 H1 (.int (if sub then m - n else m + n)) (.int (if sub then m - n else m + n)) from rfl) i)⟩
    · exact g1.elim
  · exact g.elim
theorem z_whl {body : List Stmt} {cb : List Sm} (hp : PassesOwn (model X.prog X.w) X.A X.env X.xe) (hc : PT X c (tB (rdE X.K WW (ev G cl cc)))) (hb : PSs X body (rdS X.K WW (exs G cl cb))) : PS X (.While c body [] pos) (rdS X.K WW (ex G cl (.whl cc cb))) := (ps_while hp hc hb).imp fun D σ H h => by
  obtain ⟨ad, st, env, S, s, g⟩ := h
  refine ⟨fun m σ H => ∃ ad st env, SimH X.K ad st H ∧ SimS X.K ad H env σ ∧ GoodS X.K WW ad H (whRun (fun env st => ev G cl cc env st) (fun env st => exs G cl cb env st) m env st) D, ⟨G.fuel, ad, st, env, S, s, g⟩, ?_⟩
  rintro m σ H ⟨ad, st, env, S, s, g⟩
  cases m with
  | zero => exact g.elim
  | succ m =>
    simp only [whRun] at g
    refine ⟨ad, st, env, S, s, (GoodS.of (rel := rV X.K) S s g).mono fun v H1 q => ?_⟩
    obtain ⟨w, ad1, st1, _, x1, S1, s1, r, g1⟩ := q
    obtain ⟨k, rfl, g1⟩ := truS_good r g1
    refine ⟨k, rfl, ?_⟩
    cases k with
    | false => exact g1.nx_ S1 s1
    | true =>
      simp only [if_true] at g1 ⊢
      refine ⟨fun σ H => ∃ ad st env, SimH X.K ad st H ∧ SimS X.K ad H env σ ∧ GoodS X.K WW ad H (whRun (fun env st => ev G cl cc env st) (fun env st => exs G cl cb env st) m env st) D, fun σ' H' h => ⟨m, Nat.lt_succ_self _, h⟩, ad1, st1, env, S1, s1, ?_⟩
      cases hr : exs G cl cb env st1 with
      | stuck => rw [hr] at g1; exact g1
      | er e env2 st2 => rw [hr] at g1; exact g1
      | fl fl st2 =>
        rw [hr] at g1
        cases fl with
        | nx env2 => exact fun ad' H' σ' x S s => ⟨ad', st2, env2, S, s, GoodS.ext x g1⟩
        | ct env2 => exact fun ad' H' σ' x S s => ⟨ad', st2, env2, S, s, GoodS.ext x g1⟩
        | bk env2 => exact g1
        | rt w => exact g1
theorem z_for {tg iter : Expr} {body : List Stmt} {t : Tg} {it : It} {cb : List Sm} (hp : PassesOwn (model X.prog X.w) X.A X.env X.xe) (hc : X.calm = true) (hi : PI X tg iter (rdM X.K WW (relI X.K) (evI G cl it))) (hg : PG X tg (rdG X.K t)) (hb : PSs X body (rdS X.K WW (exs G cl cb))) (hs : ∀ x, foldedSetIterable iter X.env x = pure x) :
    PS X (.For tg iter body [] pos) (rdS X.K WW (ex G cl (.forr t it cb))) := (ps_for hp hc hi hg hb hs).imp fun D σ H h => by
  obtain ⟨ad0, st0, env0, S0, s0, g0⟩ := rdS_of (rel := relI X.K) (m := evI G cl it) (f := fun env I st1 => forRun t (fun env st => exs G cl cb env st) I I.xs env st1) h
  refine ⟨ad0, st0, env0, S0, s0, g0.mono fun J H1 q => ?_⟩
  obtain ⟨I, ad1, env1, st1, S1, s1, wk, g1⟩ := q
  refine ⟨fun i m σ H => ∃ ad st env, i + m = I.xs.length ∧ Ext ad1 ad H1 H ∧ SimH X.K ad st H ∧ SimS X.K ad H env σ ∧ GoodS X.K WW ad H (forRun t (fun env st => exs G cl cb env st) I (I.xs.drop i) env st) D, ⟨I.xs.length, ad1, st1, env1, by omega, Ext.refl, S1, s1, g1⟩, ?_⟩
  rintro i m σ H ⟨ad, st, env, him, x, S, s, g⟩
  by_cases hi : i < I.xs.length
  · have hd : I.xs.drop i = I.xs[i] :: I.xs.drop (i + 1) := List.drop_eq_getElem_cons hi
    rw [hd] at g
    simp only [forRun] at g
    split at g
    · rename_i hchk
      refine .inr ⟨wk.go ad st H i x S hchk hi, fun σ H => ∃ ad st env, i + 1 + (m - 1) = I.xs.length ∧ Ext ad1 ad H1 H ∧ SimH X.K ad st H ∧ SimS X.K ad H env σ ∧ GoodS X.K WW ad H (forRun t (fun env st => exs G cl cb env st) I (I.xs.drop (i + 1)) env st) D, fun σ' H' h => ⟨m - 1, by omega, h⟩, fun v H2 hy => ?_⟩
      obtain ⟨x2, S2, w, hw, rw_⟩ := wk.yld ad st H i v H2 x S hchk hi hy
      have hw' : w = I.xs[i] := by
        rw [List.getElem?_eq_getElem hi] at hw
        exact (Option.some.inj hw).symm
      subst hw'
      split at g
      · rename_i env2 hput
        refine ⟨ad, st, env, I.xs[i], env2, S2, s.ext S x2, rw_, hput, fun σ2 s2 _ _ => ⟨ad, st, env2, S2, s2, ?_⟩⟩
        have g' := GoodS.ext x2 g
        cases hr : exs G cl cb env2 st with
        | stuck => rw [hr] at g'; exact g'
        | er e env3 st3 => rw [hr] at g'; exact g'
        | fl fl st3 =>
          rw [hr] at g'
          cases fl with
          | nx env3 => exact fun ad' H' σ' x3 S s => ⟨ad', st3, env3, by omega, (x.trans x2).trans x3, S, s, GoodS.ext x3 g'⟩
          | ct env3 => exact fun ad' H' σ' x3 S s => ⟨ad', st3, env3, by omega, (x.trans x2).trans x3, S, s, GoodS.ext x3 g'⟩
          | bk env3 => exact g'
          | rt w => exact g'
      · exact g.elim
    · exact g.elim
  · have e0 : I.xs.drop i = [] := List.drop_eq_nil_of_le (by omega)
    rw [e0] at g
    simp only [forRun] at g
    split at g
    · rename_i hchk
      exact .inl ⟨wk.stop ad st H i x S hchk (by omega) (by omega), g.nx_ S s⟩
    · exact g.elim
theorem z_par {i j : Nat} {x y : Str} {px py pt pt2 : Pos} {kt k2 : Nat} (hp : ∀ {ta : TA}, PA X [a, b] ta → PS X (.Assign [.Tuple [.Name x px, .Name y py] kt pt] (.Tuple [a, b] k2 pt2) pos) (tPar i j ta)) (ha : PA X [a, b] (rdA X.K WW (evs G cl [ca, cb]))) :
    PS X (.Assign [.Tuple [.Name x px, .Name y py] kt pt] (.Tuple [a, b] k2 pt2) pos) (rdS X.K WW (ex G cl (.unp (.tp [.nm i, .nm j]) (.op .tup [ca, cb])))) := (hp ha).imp fun D σ H h => by
  have h' : rdS X.K WW (fun env st => RS.of env (evs G cl [ca, cb] env st) fun ws st1 => RS.of env (prim .tup ws st1) fun w st2 => match Tg.put (.tp [.nm i, .nm j]) w env with
    | some env' => .fl (.nx env') st2
    | none => .stuck) D σ H := by
    obtain ⟨ad, st, env, S, s, g⟩ := h
    refine ⟨ad, st, env, S, s, ?_⟩
    simp only [ex, ev] at g
    cases hr : evs G cl [ca, cb] env st with
    | ok ws st1 =>
      rw [hr] at g
      show GoodS X.K WW ad H (RS.of env (evs G cl [ca, cb] env st) _) D
      rw [hr]
      exact g
    | err e st1 =>
      rw [hr] at g
      show GoodS X.K WW ad H (RS.of env (evs G cl [ca, cb] env st) _) D
      rw [hr]
      exact g
    | stuck =>
      rw [hr] at g
      exact g.elim
  obtain ⟨ad, st, env, S, s, g⟩ := rdS_of (rel := rVs X.K) (m := evs G cl [ca, cb]) (f := fun env ws st1 => RS.of env (prim .tup ws st1) fun w st2 => match Tg.put (.tp [.nm i, .nm j]) w env with
    | some env' => .fl (.nx env') st2
    | none => .stuck) h'
  refine ⟨ad, st, env, S, s, g.mono fun vs H1 q => ?_⟩
  obtain ⟨ws, ad, env, st, S, s, r, g⟩ := q
  simp only [prim] at g
  split at g
  · simp only [RS.of] at g
    split at g
    · rename_i env' hput
      cases ws with
      | nil => cases hput
      | cons w ws =>
        cases ws with
        | nil => cases hput
        | cons u ws =>
          cases ws with
          | nil =>
            cases hput
            obtain ⟨v, z, rfl, r1, r2⟩ := rvs_two r
            exact ⟨v, z, rfl, g.nx_ S ((s.set r1 i).set r2 j)⟩
          | cons _ _ => cases hput
    · exact g.elim
  · exact g.elim
end
end Zv

set_option maxRecDepth 100000
set_option maxHeartbeats 4000000
/-! Ev7b: texts, isinstance, xs[::-1]. -/
namespace Zv
open PySem PySem.Spec PyProof.Rows L2
section
variable {X : Cx} {WW : WX} {e a b c : Expr} {G : Prg} {cl : Cl} {ca cb cc : Ex}
theorem z_rev {k : Nat} {p1 p2 p3 pos : Pos} (ha : PE X a (rdE X.K WW (ev G cl ca))) : PE X (.Subscript a (.Slice none none (some (.UnaryOp .USub (.Constant (.int 1) k p1) p2)) p3) pos) (rdE X.K WW (ev G cl (.op .rev [ca]))) :=
  (pe_revL ha).imp fun σ H Q h => rd_oneB h fun x H1 q => by
    obtain ⟨ad, st, w, E, S, r, g⟩ := q
    change Good _ _ _ _ (pRev w st) _ _ at g
    unfold pRev at g
    split at g
    · exact g.elim
    · rename_i hn
      split at g
      · rename_i xs hx
        obtain ⟨p, vs, rfl, q1, k1⟩ := items_rel S r hx
        rcases k1 with ⟨k1, _⟩ | ⟨_, k1⟩
        · exact ⟨p, vs, rfl, k1, Good.new_vl S q1.rev g⟩
        · exact absurd k1 (hn _)
      · exact g.elim
theorem z_fmt {pos : Pos} (ha : PE X a (rdE X.K WW (ev G cl ca))) : PE X (.FormattedValue a (-1) none pos) (rdE X.K WW (ev G cl (.op .fmt [ca]))) :=
  (pe_fmt ha).imp fun σ H Q h => rd_oneB h fun x H1 q => by
    obtain ⟨ad, st, w, E, S, r, g⟩ := q
    change Good _ _ _ _ (pFmt w st) _ _ at g
    unfold pFmt at g
    split at g
    · split at g
      · rename_i hl
        exact .inl ⟨_, r, Nat.le_trans hl szL_le, g.ok_ S rfl⟩
      · exact g.elim
    · split at g
      · rename_i hl
        exact .inr ⟨_, r, hl, g.ok_ S rfl⟩
      · exact g.elim
    · exact g.elim
/-- the parts of a text -/
def tEvs (X : Cx) (WW : WX) (G : Prg) (cl : Cl) : List Ex → List TE := List.map fun c => rdE X.K WW (ev G cl c)
theorem rd_js {cs : List Ex} {σ : L2.St} {Q : VK} : ∀ {acc : Str} {H : Hp} {ad : Ad} {st : Sto} {env : En}, SimH X.K ad st H → SimS X.K ad H env σ → Good X.K (rV X.K) ad H (evJ G cl cs acc env st) Q (fun cls d H' => WW cls d σ H') →
    tJs (tEvs X WW G cl cs) acc σ H (fun out H1 => Q (.str out) H1) := by
  induction cs with
  | nil => intro acc H ad st env S s g; exact g.ok_ S rfl
  | cons c cs ih =>
    intro acc H ad st env S s g
    simp only [evJ] at g
    refine rdE_in S s g fun v H1 ad1 st1 w x1 S1 r g1 => ?_
    split at g1
    · rename_i y
      split at g1
      · rename_i hl
        exact ⟨y, r, Nat.le_trans hl szL_le, ih S1 (s.ext S x1) g1⟩
      · exact g1.elim
    · exact g1.elim
theorem z_fstr {v1 v2 : Expr} {es : List Expr} {cs : List Ex} {pos : Pos} (ha : PJ X (v1 :: v2 :: es) (tEvs X WW G cl cs)) : PE X (.JoinedStr (v1 :: v2 :: es) pos) (rdE X.K WW (ev G cl (.fstr cs))) :=
  (pe_joined ha).imp fun σ H Q h => by
    obtain ⟨ad, st, env, S, s, g⟩ := h
    exact rd_js S s g
/-! ### isinstance -/
def tyVal (K : PySem.W.Frag) : Sum String Str → Value
  | .inl n => .type n
  | .inr C => .ref (He.ga K C)
structure InsT (K : PySem.W.Frag) (C : Str) : Prop where
  cl : Cls K (He.ga K C)
  ha : PySem.W.findIn K (.ref (He.ga K C)) "__class__" = some (some (.builtin "object.__class__"))
  hn : PySem.W.specialIn K (.builtin "object.__class__") "__get__" = some (some (.builtin "getset_descriptor.__get__"))
  htk : PySem.W.takesIn K (.builtin "object.__class__") = some true
  hm : PySem.W.mroIn K (He.ga K C) (.type "object") = some true
theorem type_rel {K : PySem.W.Frag} {ad : Ad} {H : Hp} {st : Sto} {w : W} {v : V} {t : Sum String Str} (S : SimH K ad st H) (r : RV K ad H w v) (h : typeOfW st w = some t) (hC : ∀ C, t = .inr C → InsT K C) : TyX K H v (tyVal K t) := by
  cases w with
  | non => cases h; rw [show v = _ from r]; exact .base .non
  | bl b => cases h; rw [show v = _ from r]; exact .base (.bl b)
  | int b => cases h; rw [show v = _ from r]; exact .base (.int b)
  | str b => cases h; rw [show v = _ from r]; exact .base (.str b)
  | tup xs =>
    cases h
    obtain ⟨a, vs, rfl, h1, h2⟩ := r
    rcases h1 with (h1 | ⟨o, h1⟩) | ⟨o, its, n, h1, h3, _⟩
    · exact .base (.tup h1)
    · exact .fTuple h1
    · exact .kTuple h1 h3
  | fzl xs => cases h
  | vl xs =>
    cases h
    obtain ⟨a, vs, rfl, h1, _⟩ := r
    exact .base (.lst h1)
  | obj C ns xs =>
    cases h
    obtain ⟨a, dx, vs, rfl, h1, _⟩ := r
    obtain ⟨c1, c2, c3, c4, c5⟩ := hC C rfl
    exact .base (.ins h1 c1 c2 c3 c4 c5)
  | ref i =>
    obtain ⟨a, h1, rfl⟩ := r
    simp only [typeOfW] at h
    split at h
    · rename_i hs
      cases h
      obtain ⟨vs, q1, q2⟩ := S.obj _ _ _ h1 hs
      exact .base (.lst q1)
    · rename_i C fs hs
      cases h
      obtain ⟨dx, vs, q1, q2⟩ := S.obj _ _ _ h1 hs
      obtain ⟨c1, c2, c3, c4, c5⟩ := hC C rfl
      exact .base (.ins q1 c1 c2 c3 c4 c5)
    · rename_i hs
      cases h
      obtain ⟨vs, q1, q2⟩ := S.obj _ _ _ h1 hs
      exact .base (.dK q1)
    · rename_i hs
      cases h
      obtain ⟨vs, q1, q2⟩ := S.obj _ _ _ h1 hs
      exact .base (.dT q1)
    · cases h
  | glo x => cases h
  | bty x => cases h
/-- isinstance(a, c) -/
theorem z_isi {cn : Str} {cv : V} {cu : Value} {p p2 pos : Pos} {isiF : Sum String Str → Option Bool} (hG : G.isi cn = isiF) (hc : PE X (.Name cn p2) (tC cv)) (hv : ClsV cv cu) (hI : ∀ t b, isiF t = some b → PySem.W.kitOne X.K (tyVal X.K t) cu = some b ∧ ∀ C, t = .inr C → InsT X.K C)
    (hg : Gl X "isinstance") (hm : X.mg "isinstance" = none) (ha : PE X a (rdE X.K WW (ev G cl ca))) (hs : noStar a = true) :
    PE X (.Call (.Name "isinstance" p) [a, .Name cn p2] [] pos) (rdE X.K WW (ev G cl (.isi ca cn))) := by
  have s1 : starEach [a, .Name cn p2] X.env = (false, eval a X.env) :: starEach [.Name cn p2] X.env := star_cons hs
  refine (pe_callB call_isi hg hm (by decide +kernel) (pa_cons ha (pa_cons hc pa_nil (star_cons rfl)) s1) (by decide +kernel) (by decide +kernel) s1 (star_none (by rfl))).imp fun σ H Q h => ?_
  refine rdE_then (f := fun env w st1 => match typeOfW st1 w with
    | some t => (match G.isi cn t with
      | some b => .ok (.bl b) st1
      | none => .stuck)
    | none => .stuck) h fun v H1 ad env st w S s r g => ?_
  split at g
  · rename_i t ht
    split at g
    · rename_i b hb
      obtain ⟨k1, k2⟩ := hI t b (by rw [← hG]; exact hb)
      exact ⟨v, cv, tyVal X.K t, cu, b, rfl, hv, type_rel S r ht k2, k1, g.ok_ S rfl⟩
    · exact g.elim
  · exact g.elim
end
end Zv

set_option maxRecDepth 100000
set_option maxHeartbeats 4000000
/-! EvZp: zip of two sequences, lists or tuples. -/
namespace Zv
open PySem PySem.Spec PyProof.Rows PyProof L2
def SqX (K : PySem.W.Frag) (t : Bool) (H : Hp) (a : Addr) (xs : List V) : Prop := match t with
  | true => SqT K H a xs
  | false => SqL K H a xs
def ItX (t : Bool) (h : Heap) (it a : Addr) (i : Nat) : Prop := match t with
  | true => h.IsTupleIter it a i
  | false => h.IsListIter it a i
def LsX (t : Bool) (h : Heap) (a : Addr) (items : Array Value) : Prop := match t with
  | true => h.IsTuple a items
  | false => h.IsList a items
def itO (t : Bool) (l : Addr) : Obj := match t with
  | true => { cls := .type "tuple_iterator", data := .fields #[.ref l, .int 0 0] }
  | false => { cls := .type "list_iterator", data := .fields #[.ref l, .int 0 0] }
theorem drawsX (t : Bool) {prog : Program} {w : World} {A : Around} (hh : A.handled = none) (it l : Addr) (hne : l ≠ it) (items : Array Value) :
    Draws prog w A it [it, l] items.size (fun i v => items[i]? = some v) (fun i h => ItX t h it l i ∧ LsX t h l items) := by
  cases t with
  | true => exact Draws.tuple hh it l hne items
  | false => exact Draws.list hh it l hne items
theorem beginsX (t : Bool) (l : Addr) (items : Array Value) : Begins (.ref l) (itO t l) (fun h => LsX t h l items) := by
  cases t with
  | true => exact begins_tuple l items
  | false => exact begins_list l items
theorem itX_new (t : Bool) {h : Heap} {it l : Addr} (e : h.get? it = some (itO t l)) : ItX t h it l 0 := by
  cases t with
  | true => exact ⟨_, e, rfl, rfl⟩
  | false => exact ⟨_, e, rfl, rfl⟩
theorem itX_obj {t : Bool} {h : Heap} {it l : Addr} {i : Nat} (q : ItX t h it l i) : ∃ o, h.get? it = some o ∧ ∀ v, o.data ≠ .cell v := by
  cases t with
  | true => obtain ⟨o, e, _, d⟩ := q; exact ⟨o, e, fun v z => by rw [d] at z; cases z⟩
  | false => obtain ⟨o, e, _, d⟩ := q; exact ⟨o, e, fun v z => by rw [d] at z; cases z⟩
theorem itX_at {t : Bool} {h h' : Heap} {it l : Addr} {i : Nat} (q : ItX t h it l i) (k : ∀ o, h.get? it = some o → h'.get? it = some o) : ItX t h' it l i := by
  cases t with
  | true => exact Heap.IsTupleIter.at q k
  | false => exact Heap.IsListIter.at q k
theorem inv_sqX {X : Cx} {pins : List (Addr × Obj)} {σ : L2.St} {H : Hp} {s : Shared} (I : L2.Inv X pins σ H s) {t : Bool} {a : Addr} {xs : List V} (q : SqX X.K t H a xs) : ∃ its : List Value, Vals xs its ∧ LsX t s.heap a its.toArray := by
  cases t with
  | true =>
    obtain ⟨its, r, p, _⟩ := I.tuple q
    exact ⟨its, r, p⟩
  | false =>
    obtain ⟨its, r, p, _⟩ := I.list q
    exact ⟨its, r, p.isList⟩
theorem inv_injX {X : Cx} {pins : List (Addr × Obj)} {σ : L2.St} {H : Hp} {s : Shared} (I : L2.Inv X pins σ H s) {t : Bool} {a : Addr} {xs ys : List V} (q : SqX X.K t H a xs) (q2 : SqX X.K t H a ys) : xs = ys := by
  cases t with
  | true => exact I.tuple_inj q q2
  | false => exact I.list_inj q q2
theorem lsX_lt {t : Bool} {h : Heap} {a : Addr} {its : Array Value} (q : LsX t h a its) : a < h.objs.size := by
  cases t with
  | true => obtain ⟨o, e, _⟩ := q; exact Heap.lt_size e
  | false => obtain ⟨o, e, _⟩ := q; exact Heap.lt_size e
def Itzz (K : PySem.W.Frag) (t u : Bool) (a b : Addr) : L2.It :=
  ⟨fun i H => ∃ (xs ys : List V) (x y : V), SqX K t H a xs ∧ SqX K u H b ys ∧ xs[i]? = some x ∧ ys[i]? = some y,
   fun i H v H' => ∃ T x y, v = .ref T ∧ H T = none ∧ H' = upd H T (.tup [x, y]) ∧ (∀ xs, SqX K t H a xs → xs[i]? = some x) ∧ ∀ ys, SqX K u H b ys → ys[i]? = some y,
   fun i H => ∃ xs ys : List V, SqX K t H a xs ∧ SqX K u H b ys ∧ i ≤ xs.length ∧ i ≤ ys.length ∧ (i = xs.length ∨ i = ys.length)⟩
theorem turn_zz {P : Program} {w : World} {K : PySem.W.Frag} {elts : List Expr} {kk : Nat} {tpos : Pos} {t u : Bool} {a b z TI TO i1 i2 : Addr} (D : ZipSep2 z TI TO i1 i2 [i1, a] [i2, b]) (n1 : a ≠ i1) (n2 : b ≠ i2) :
    Turn P w K (.Tuple elts kk tpos) (Itzz K t u a b) [z, TI, TO, i1, i2] z (fun i h => IsZip h z TI TO .none ∧ IsTupOf2 h TI (.ref i1) (.ref i2) ∧ (∃ x y, IsTupOf2 h TO x y) ∧ ItX t h i1 a i ∧ ItX u h i2 b i) where
  mem := by simp
  obj := fun i h st c hc => by
    obtain ⟨hz, hTI, ⟨x, y, hTO⟩, h1, h2⟩ := st
    have e' : c = z ∨ c = TI ∨ c = TO ∨ c = i1 ∨ c = i2 := by simpa using hc
    rcases e' with rfl | rfl | rfl | rfl | rfl
    · exact ⟨_, hz, fun v q => nomatch q⟩
    · exact ⟨_, hTI, fun v q => nomatch q⟩
    · exact ⟨_, hTO, fun v q => nomatch q⟩
    · exact itX_obj h1
    · exact itX_obj h2
  keep := fun i h h' st k => by
    obtain ⟨hz, hTI, ⟨x, y, hTO⟩, h1, h2⟩ := st
    exact ⟨k z (by simp) _ hz, k TI (by simp) _ hTI, ⟨x, y, k TO (by simp) _ hTO⟩, itX_at h1 fun o q => k i1 (by simp) o q, itX_at h2 fun o q => k i2 (by simp) o q⟩
  item := by
    intro X hP hw hK hc i pins s σ H E I hf st hg
    subst hP hw hK
    obtain ⟨hz, hTI, ⟨x0, y0, hTO⟩, h1, h2⟩ := st
    obtain ⟨xs, ys, x, y, hqx, hqy, hx, hy⟩ := hg
    obtain ⟨its, rv, p⟩ := inv_sqX I hqx
    obtain ⟨its2, rv2, p2⟩ := inv_sqX I hqy
    obtain ⟨v1, hu, ru⟩ := rv.get hx
    obtain ⟨v2, hu2, ru2⟩ := rv2.get hy
    have hzl : z < s.heap.objs.size := Heap.lt_size hz
    have l1 : i < its.toArray.size := by simpa using (List.getElem?_eq_some_iff.mp hu).1
    have l2 : i < its2.toArray.size := by simpa using (List.getElem?_eq_some_iff.mp hu2).1
    have hh : X.A.in1.handled = none := I.ok.hd hc
    refine wpAny_pyNext_zipD2_item D (drawsX t hh i1 a n1 its.toArray) (drawsX u hh i2 b n2 its2.toArray) hz hTI hTO ⟨h1, p⟩ ⟨h2, p2⟩ l1 l2 fun y1 y2 h' tk P1 P2 z' TO' h1' h2' hT hsz hk => ?_
    have e1 : y1 = v1 := by
      have q : its.toArray[i]? = some v1 := by simpa using hu
      exact Option.some.inj (P1.symm.trans q)
    have e2 : y2 = v2 := by
      have q : its2.toArray[i]? = some v2 := by simpa using hu2
      exact Option.some.inj (P2.symm.trans q)
    subst e1 e2
    refine ⟨_, rfl, wpAny_letOwnedTupleGo_zip (s := { s with heap := h', toks := tk }) z' fun h'' z'' sb => ?_⟩
    have hT2 : h''.get? s.heap.objs.size = some { cls := .type "tuple", data := .seq #[y1, y2] } := (sb.2 _ (Nat.ne_of_gt hzl)).trans hT
    have new : ObjOk X.prog X.w (upd H s.heap.objs.size (.tup [x, y])) h'' s.heap.objs.size (.tup [x, y]) :=
      ⟨by show 2 ≤ sizeLine; decide, [y1, y2], .cons ru (.cons ru2 .nil), ⟨_, hT2, rfl, _, rfl⟩⟩
    have inn : ∀ {c : Addr}, c ∉ [z, TI, TO, i1, i2] → c ≠ z ∧ c ≠ TO ∧ c ≠ i1 ∧ c ≠ i2 := fun {c} hb => ⟨fun q => hb (by simp [q]), fun q => hb (by simp [q]), fun q => hb (by simp [q]), fun q => hb (by simp [q])⟩
    have I1 : L2.Inv X pins σ (upd H s.heap.objs.size (.tup [x, y])) { s with heap := h'', toks := tk } :=
      I.turnedNew (ch := [z, TI, TO, i1, i2]) (fun c o hb q => (sb.2 c (inn hb).1).trans (hk c o (inn hb).1 (inn hb).2.1 (inn hb).2.2.1 (inn hb).2.2.2 q)) hf (Nat.le_refl _) new
    refine ⟨.ref s.heap.objs.size, _, I1, rfl, ⟨_, x, y, rfl, I.hok.fresh (Nat.le_refl _), rfl, fun l hl => by rw [inv_injX I hl hqx]; exact hx, fun l hl => by rw [inv_injX I hl hqy]; exact hy⟩, ⟨z'', ?_, ⟨y1, y2, ?_⟩, ?_, ?_⟩, fun c hcm => ?_⟩
    · exact (sb.2 _ D.TIz).trans (hk _ _ D.TIz D.TITO D.TIi1 D.TIi2 hTI)
    · exact (sb.2 _ D.TOz).trans TO'
    · exact itX_at h1'.1 fun o q => (sb.2 _ D.zi1.symm).trans q
    · exact itX_at h2'.1 fun o q => (sb.2 _ D.zi2.symm).trans q
    · have hlt : c < s.heap.objs.size := by
        have e' : c = z ∨ c = TI ∨ c = TO ∨ c = i1 ∨ c = i2 := by simpa using hcm
        rcases e' with q | q | q | q | q
        · rw [q]; exact hzl
        · rw [q]; exact Heap.lt_size hTI
        · rw [q]; exact Heap.lt_size hTO
        · rw [q]; obtain ⟨_, e1, _⟩ := itX_obj h1; exact Heap.lt_size e1
        · rw [q]; obtain ⟨_, e2, _⟩ := itX_obj h2; exact Heap.lt_size e2
      rw [upd_ne (Nat.ne_of_lt hlt)]
      exact (hf c hcm).1
  done := by
    intro X hP hw hK hc i pins s σ H E I hf st hg
    subst hP hw hK
    obtain ⟨hz, hTI, ⟨x0, y0, hTO⟩, h1, h2⟩ := st
    obtain ⟨xs, ys, hqx, hqy, k1, k2, hend⟩ := hg
    obtain ⟨its, rv, p⟩ := inv_sqX I hqx
    obtain ⟨its2, rv2, p2⟩ := inv_sqX I hqy
    have l1 : its.toArray.size = xs.length := by rw [List.size_toArray, rv.length]
    have l2 : its2.toArray.size = ys.length := by rw [List.size_toArray, rv2.length]
    have hh : X.A.in1.handled = none := I.ok.hd hc
    have inn : ∀ {c : Addr}, c ∉ [z, TI, TO, i1, i2] → c ≠ z ∧ c ≠ TO ∧ c ≠ i1 ∧ c ≠ i2 := fun {c} hb => ⟨fun q => hb (by simp [q]), fun q => hb (by simp [q]), fun q => hb (by simp [q]), fun q => hb (by simp [q])⟩
    exact wpAny_pyNext_zipD2_end D (drawsX t hh i1 a n1 its.toArray) (drawsX u hh i2 b n2 its2.toArray) hz hTI hTO ⟨h1, p⟩ ⟨h2, p2⟩ (by rw [l1]; exact k1) (by rw [l2]; exact k2) (by rw [l1, l2]; exact hend)
      fun h' tk hk => ⟨rfl, I.turnedL (t' := tk) (ch := [z, TI, TO, i1, i2]) (fun c o hb q => hk c o (inn hb).1 (inn hb).2.1 (inn hb).2.2.1 (inn hb).2.2.2 q) hf⟩
  self := fun A i s Q E st h => wpAny_pyIter_zip st.1 h
/-- zip(e, e2) -/
def iZZ (K : PySem.W.Frag) (ta : TA) : TI := fun σ H R => ta σ H fun vs H1 => ∃ a b t u xs ys, vs = [.ref a, .ref b] ∧ SqX K t H1 a xs ∧ SqX K u H1 b ys ∧ R (Itzz K t u a b) H1
theorem pi_zz {X : Cx} {e e2 : Expr} {ta : TA} {p pos tpos : Pos} {elts : List Expr} {kk : Nat} (hg : Gl X "zip") (hm : X.mg "zip" = none) (ha : PA X [e, e2] ta)
    (hs : starEach [e, e2] X.env = (false, eval e X.env) :: starEach [e2] X.env) (hpl : (backTo pos (starEach [e2] X.env)).any (·.1) = false) :
    PI X (.Tuple elts kk tpos) (.Call (.Name "zip" p) [e, e2] [] pos) (iZZ X.K ta) := by
  refine ⟨fun pins s σ H R I h => ?_⟩
  refine Call_ (ld_blt I hg hm PyProof.Rows.boot_zip (PyProof.Rows.callWith_type1 (thn (ha.run pos pins s σ H _ I h) fun us s1 ⟨vs, H1, I1, r1, q1⟩ => ?_) hs hpl))
  obtain ⟨a, b, t, u, xs, ys, rfl, hqx, hqy, q⟩ := q1
  obtain ⟨_, _, rfl, r, r'⟩ := vals2 r1
  cases r
  cases r'
  obtain ⟨its, rv, p1⟩ := inv_sqX I1 hqx
  obtain ⟨its2, rv2, p2⟩ := inv_sqX I1 hqy
  refine zip_begins2 (beginsX t a its.toArray) (beginsX u b its2.toArray) p1 p2 fun h' hz hTI hTO h1 h2 hsz hk => wpAny_pyIter_zip hz ?_
  have I2 : L2.Inv X pins σ H1 { s1 with heap := h' } := I1.kept (t' := s1.toks) hk
  have la := lsX_lt p1
  have lb := lsX_lt p2
  refine ⟨s1.heap.objs.size + 4, [s1.heap.objs.size + 4, s1.heap.objs.size + 2, s1.heap.objs.size + 3, s1.heap.objs.size, s1.heap.objs.size + 1], _, _, H1, rfl, I2,
    turn_zz (t := t) (u := u) (a := a) (b := b) (zip_sep2 (fun c hc => by rw [List.mem_singleton.mp hc]; exact la) (fun c hc => by rw [List.mem_singleton.mp hc]; exact lb)) (Nat.ne_of_lt la) (Nat.ne_of_lt (Nat.lt_succ_of_lt lb)), ⟨hz, hTI, ⟨_, _, hTO⟩, itX_new t h1, itX_new u h2⟩, fun c hcm => ?_, q⟩
  have e' : c = s1.heap.objs.size + 4 ∨ c = s1.heap.objs.size + 2 ∨ c = s1.heap.objs.size + 3 ∨ c = s1.heap.objs.size ∨ c = s1.heap.objs.size + 1 := by simpa using hcm
  have hle : s1.heap.objs.size ≤ c := by
    rcases e' with q | q | q | q | q <;> rw [q] <;> first | exact Nat.le_refl _ | exact Nat.le_add_right _ _
  exact I1.fpOk hle (I1.hok.fresh hle)
/-! ### the reading -/
theorem zip_len : ∀ (xs ys : List W), (zipW xs ys).length = min xs.length ys.length
  | [], _ => by simp [zipW]
  | _ :: _, [] => by simp [zipW]
  | x :: xs, y :: ys => by simp [zipW, zip_len xs ys]
theorem zip_get : ∀ (xs ys : List W) (i : Nat) (x y : W), xs[i]? = some x → ys[i]? = some y → (zipW xs ys)[i]? = some (.tup [x, y])
  | [], _, _, _, _, h, _ => by simp at h
  | _ :: _, [], _, _, _, _, h => by simp at h
  | x :: xs, y :: ys, 0, _, _, h, h2 => by
    simp at h h2
    subst h h2
    rfl
  | x :: xs, y :: ys, i + 1, _, _, h, h2 => by
    have := zip_get xs ys i _ _ (by simpa using h) (by simpa using h2)
    simpa [zipW] using this
def isTupW : W → Bool
  | .tup _ => true
  | _ => false
section
variable {X : Cx} {WW : WX} {e a b c : Expr} {G : Prg} {cl : Cl} {ca cb cc : Ex}
theorem seqX_at {K : PySem.W.Frag} {ad0 ad : Ad} {H0 H : Hp} {st0 st : Sto} {w : W} {a : Addr} {xs : List W} {I : Itm} (S0 : SimH K ad0 st0 H0) (r0 : RV K ad0 H0 w (.ref a)) (hx : items st0 w = some xs) (hw : ∀ p ∈ wat w xs, p ∈ I.at_) (x : Ext ad0 ad H0 H) (S : SimH K ad st H) (hc : I.chk st = true) :
    ∃ vs, RVs K ad H xs vs ∧ SqX K (isTupW w) H a vs := by
  obtain ⟨vs, r, k⟩ := seq_at S0 r0 hx hw x S hc
  rcases k with ⟨k, n⟩ | ⟨k, rfl⟩
  · refine ⟨vs, r, ?_⟩
    cases w <;> first | exact k | exact absurd rfl (n _)
  · exact ⟨vs, r, k⟩
theorem items_ref {K : PySem.W.Frag} {ad : Ad} {H : Hp} {st : Sto} {w : W} {v : V} {xs : List W} (S : SimH K ad st H) (r : RV K ad H w v) (hx : items st w = some xs) : ∃ a, v = .ref a := by
  obtain ⟨a, vs, rfl, _⟩ := items_rel S r hx
  exact ⟨a, rfl⟩
theorem z_zip {elts : List Expr} {kk : Nat} {tpos p pos : Pos} (hg : Gl X "zip") (hm : X.mg "zip" = none) (ha : PE X a (rdE X.K WW (ev G cl ca))) (hb : PE X b (rdE X.K WW (ev G cl cb))) (hs : noStar a = true) (hs2 : noStar b = true) :
    PI X (.Tuple elts kk tpos) (.Call (.Name "zip" p) [a, b] [] pos) (rdM X.K WW (relI X.K) (evI G cl (.zip ca cb))) :=
  (pi_zz hg hm (pa_cons ha (pa_cons hb pa_nil (star_cons hs2)) (star_cons hs)) (star_cons hs) (by rw [star_cons hs2]; rfl)).imp fun σ H R h => by
    obtain ⟨ad0, st0, env0, S0, s0, g0⟩ := rd_bind (rel := rV X.K) (m := ev G cl ca) (f := fun env x st1 => (ev G cl cb env st1).bind fun y st2 => zipItm x y st2) h
    refine ⟨ad0, st0, env0, S0, s0, g0.mono fun v H1 q => ?_⟩
    obtain ⟨w, ad, env, st, S, s, r, g⟩ := q
    refine ⟨ad, st, env, S, s, (Good.step (rel := rV X.K) g).mono fun y H2 q2 => ?_⟩
    obtain ⟨wy, ad1, st1, hev, x1, S1, ry, g1⟩ := q2
    clear hev
    unfold zipItm at g1
    split at g1
    · rename_i xs ys hx hy
      have r1 := r.ext S x1
      obtain ⟨p1, rfl⟩ := items_ref S1 r1 hx
      obtain ⟨p2, rfl⟩ := items_ref S1 ry hy
      have k1 : ∀ {ad2 : Ad} {st2 : Sto} {H3 : Hp}, Ext ad1 ad2 H2 H3 → SimH X.K ad2 st2 H3 → Itm.chk ⟨zipW xs ys, wat w xs ++ wat wy ys⟩ st2 = true → ∃ vs, RVs X.K ad2 H3 xs vs ∧ SqX X.K (isTupW w) H3 p1 vs := fun x2 S2 c2 =>
        seqX_at S1 r1 hx (fun q hq => List.mem_append_left _ hq) x2 S2 c2
      have k2 : ∀ {ad2 : Ad} {st2 : Sto} {H3 : Hp}, Ext ad1 ad2 H2 H3 → SimH X.K ad2 st2 H3 → Itm.chk ⟨zipW xs ys, wat w xs ++ wat wy ys⟩ st2 = true → ∃ vs, RVs X.K ad2 H3 ys vs ∧ SqX X.K (isTupW wy) H3 p2 vs := fun x2 S2 c2 =>
        seqX_at S1 ry hy (fun q hq => List.mem_append_right _ hq) x2 S2 c2
      obtain ⟨a1, vs1, e1, q1, t1⟩ := items_rel S1 r1 hx
      obtain ⟨a2, vs2, e2, q2, t2⟩ := items_rel S1 ry hy
      cases e1
      cases e2
      have s1 : SqX X.K (isTupW w) H2 p1 vs1 := by
        rcases t1 with ⟨k, n⟩ | ⟨k, rfl⟩
        · cases w <;> first | exact k | exact absurd rfl (n _)
        · exact k
      have s2 : SqX X.K (isTupW wy) H2 p2 vs2 := by
        rcases t2 with ⟨k, n⟩ | ⟨k, rfl⟩
        · cases wy <;> first | exact k | exact absurd rfl (n _)
        · exact k
      refine ⟨p1, p2, isTupW w, isTupW wy, vs1, vs2, rfl, s1, s2, g1.ok_ S1 ?_⟩
      refine ⟨fun ad2 st2 H3 i x2 S2 c2 hi => ?_, fun ad2 st2 H3 i x2 S2 c2 hi hi2 => ?_, fun ad2 st2 H3 i x H4 x2 S2 c2 hi hyl => ?_⟩
      · obtain ⟨us, ru, ku⟩ := k1 x2 S2 c2
        obtain ⟨us2, ru2, ku2⟩ := k2 x2 S2 c2
        simp only [zip_len] at hi
        have l1 : i < xs.length := by omega
        have l2 : i < ys.length := by omega
        obtain ⟨u1, hu1, _⟩ := ru.get (List.getElem?_eq_getElem l1)
        obtain ⟨u2, hu2, _⟩ := ru2.get (List.getElem?_eq_getElem l2)
        exact ⟨us, us2, u1, u2, ku, ku2, hu1, hu2⟩
      · obtain ⟨us, ru, ku⟩ := k1 x2 S2 c2
        obtain ⟨us2, ru2, ku2⟩ := k2 x2 S2 c2
        simp only [zip_len] at hi hi2
        have e1 := ru.length
        have e2 := ru2.length
        exact ⟨us, us2, ku, ku2, by omega, by omega, by omega⟩
      · obtain ⟨us, ru, ku⟩ := k1 x2 S2 c2
        obtain ⟨us2, ru2, ku2⟩ := k2 x2 S2 c2
        simp only [zip_len] at hi
        have l1 : i < xs.length := by omega
        have l2 : i < ys.length := by omega
        obtain ⟨T, y1, y2, rfl, hT, rfl, f1, f2⟩ := hyl
        obtain ⟨u1, hu1, rr1⟩ := ru.get (List.getElem?_eq_getElem l1)
        obtain ⟨u2, hu2, rr2⟩ := ru2.get (List.getElem?_eq_getElem l2)
        have e1 := f1 us ku
        have e2 := f2 us2 ku2
        rw [hu1] at e1
        rw [hu2] at e2
        cases e1
        cases e2
        have xs' : Ext ad2 ad2 H3 (upd H3 T (.tup [y1, y2])) := Ext.side hT
        exact ⟨xs', S2.side hT, _, zip_get xs ys i _ _ (List.getElem?_eq_getElem l1) (List.getElem?_eq_getElem l2), ⟨T, [y1, y2], rfl, SqT.of upd_same, RVs.cons (rr1.ext S2 xs') (RVs.one (rr2.ext S2 xs'))⟩⟩
    · exact g1.elim
end
end Zv

set_option maxRecDepth 100000
set_option maxHeartbeats 4000000
/-! EvEq0: == of two tuples of one length, item by item, both answers. -/
namespace Zv
open PySem PySem.SeqAt
open AutoSeq1 (wpAny_loadPart')
open MeetsSeq MeetsSeq2 MeetsSeq3 SeqRoads2
section
variable {prog : Program} {w : World} {A : Around} {R : Result → Shared → Prop}
theorem tup_eqB (l b : Addr) (xs ys : Array Value) (n n2 : Nat) (dd dd2 : Option Addr) (sl sl2 : Array (Option Value)) (I : Nat → Shared → Prop) (J : Shared → Prop)
    (turn : ∀ i (h1 : i < xs.size) (h2 : i < ys.size) s, I i s → wpAny (model prog w) A.in1 (eqBool xs[i] ys[i]) (fun r s' => (r = true ∧ I (i + 1) s') ∨ (r = false ∧ J s')) (fun e s' => R (.error e) s') s)
    (yes : ∀ s, I (min xs.size ys.size) s → R (.ok (.ret (.bool ((xs.size == ys.size))))) s) (no : ∀ s, J s → R (.ok (.ret (.bool false))) s) {s : Shared}
    (hl : s.heap.get? l = some { cls := .type "tuple", dict := dd, data := .seq xs n, slots := sl }) (hb : s.heap.get? b = some { cls := .type "tuple", dict := dd2, data := .seq ys n2, slots := sl2 }) (h : I 0 s) :
    wpAny (model prog w) A.in1 (Builtin.«tuple.__eq__» ⟨[.ref l, .ref b], []⟩) (GQ.FinOf prog w A R) (fun e s' => R (.error e) s') s := by
  have sub := AutoSeq1.sub_tuple_tuple
  have len : (xs.toList.zip ys.toList).length = min xs.size ys.size := by simp
  have start := h
  obtain ⟨hp, g, d, tk, os⟩ := s
  wp_walk using wpAny_loadPart' hl, wpAny_loadPart' hb, wpAny_forIn_list _ (fun rest q s' => q.1 = none ∧ ∃ i, rest = (xs.toList.zip ys.toList).drop i ∧ i ≤ min xs.size ys.size ∧ I i s') _
  case turn =>
    rintro ⟨y, x⟩ rest q s' ⟨hq, i, hr, hi, st⟩
    have lt : i < (xs.toList.zip ys.toList).length := Nat.lt_of_not_le fun z => by
      rw [List.drop_of_length_le z] at hr
      cases hr
    have h1 : i < xs.size := by omega
    have h2 : i < ys.size := by omega
    rw [List.drop_eq_getElem_cons lt] at hr
    injection hr with e er
    have ey : y = xs[i] := by simpa using congrArg Prod.fst e
    have ex : x = ys[i] := by simpa using congrArg Prod.snd e
    subst ey ex
    refine wpAny_bind (wpAny_mono (turn i h1 h2 s' st) (fun r s2 k => ?_) fun _ _ z => z)
    rcases k with ⟨rfl, k⟩ | ⟨rfl, k⟩
    · wp_walk
      exact ⟨rfl, i + 1, er, by omega, k⟩
    · have k' := no _ k
      wp_walk
      exact k'
  case fin =>
    rintro ⟨q1, q2⟩ s' ⟨hq, i, hr, hi, st⟩
    simp only at hq
    subst hq
    have ei : i = min xs.size ys.size := by
      have : ¬ i < (xs.toList.zip ys.toList).length := fun z => by
        rw [List.drop_eq_getElem_cons z] at hr
        cases hr
      omega
    have k := yes s' (ei ▸ st)
    wp_walk
    exact k
  case h => exact ⟨rfl, 0, rfl, Nat.zero_le _, start⟩
theorem tup_neB (l b : Addr) (xs ys : Array Value) (n n2 : Nat) (dd dd2 : Option Addr) (sl sl2 : Array (Option Value)) (I : Nat → Shared → Prop) (J : Shared → Prop)
    (turn : ∀ i (h1 : i < xs.size) (h2 : i < ys.size) s, I i s → wpAny (model prog w) A.in1 (eqBool xs[i] ys[i]) (fun r s' => (r = true ∧ I (i + 1) s') ∨ (r = false ∧ J s')) (fun e s' => R (.error e) s') s)
    (yes : ∀ s, I (min xs.size ys.size) s → R (.ok (.ret (.bool (!(xs.size == ys.size))))) s) (no : ∀ s, J s → R (.ok (.ret (.bool true))) s) {s : Shared}
    (hl : s.heap.get? l = some { cls := .type "tuple", dict := dd, data := .seq xs n, slots := sl }) (hb : s.heap.get? b = some { cls := .type "tuple", dict := dd2, data := .seq ys n2, slots := sl2 }) (h : I 0 s) :
    wpAny (model prog w) A.in1 (Builtin.«tuple.__ne__» ⟨[.ref l, .ref b], []⟩) (GQ.FinOf prog w A R) (fun e s' => R (.error e) s') s := by
  have sub := AutoSeq1.sub_tuple_tuple
  have len : (xs.toList.zip ys.toList).length = min xs.size ys.size := by simp
  have start := h
  obtain ⟨hp, g, d, tk, os⟩ := s
  wp_walk using wpAny_loadPart' hl, wpAny_loadPart' hb, wpAny_forIn_list _ (fun rest q s' => q.1 = none ∧ ∃ i, rest = (xs.toList.zip ys.toList).drop i ∧ i ≤ min xs.size ys.size ∧ I i s') _
  case turn =>
    rintro ⟨y, x⟩ rest q s' ⟨hq, i, hr, hi, st⟩
    have lt : i < (xs.toList.zip ys.toList).length := Nat.lt_of_not_le fun z => by
      rw [List.drop_of_length_le z] at hr
      cases hr
    have h1 : i < xs.size := by omega
    have h2 : i < ys.size := by omega
    rw [List.drop_eq_getElem_cons lt] at hr
    injection hr with e er
    have ey : y = xs[i] := by simpa using congrArg Prod.fst e
    have ex : x = ys[i] := by simpa using congrArg Prod.snd e
    subst ey ex
    refine wpAny_bind (wpAny_mono (turn i h1 h2 s' st) (fun r s2 k => ?_) fun _ _ z => z)
    rcases k with ⟨rfl, k⟩ | ⟨rfl, k⟩
    · wp_walk
      exact ⟨rfl, i + 1, er, by omega, k⟩
    · have k' := no _ k
      wp_walk
      exact k'
  case fin =>
    rintro ⟨q1, q2⟩ s' ⟨hq, i, hr, hi, st⟩
    simp only at hq
    subst hq
    have ei : i = min xs.size ys.size := by
      have : ¬ i < (xs.toList.zip ys.toList).length := fun z => by
        rw [List.drop_eq_getElem_cons z] at hr
        cases hr
      omega
    have k := yes s' (ei ▸ st)
    wp_walk
    exact k
  case h => exact ⟨rfl, 0, rfl, Nat.zero_le _, start⟩
end
end Zv

set_option maxRecDepth 100000
set_option maxHeartbeats 4000000
/-! EvEq1: == where tuples hold instances with an own __eq__. -/
namespace Zv
open PySem PySem.Spec PyProof.Rows L2
structure EqOk (G : Prg) (cl : Cl) (X : Cx) (k : Nat) : Prop where
  ok : ∀ C f, G.eqm C = some f → PySem.W.findIn X.K (.ref (He.ga X.K C)) "__eq__" = some (some (.ref (adr G X.K f))) ∧ PySem.W.isFn X.K (.ref (adr G X.K f)) = true ∧ FnG X.prog X.w X.K X.mg X.base (L2.CX X.prog X.w) k (adr G X.K f) (G.par f) (spC X.K cl f)
section
variable {X : Cx} {G : Prg} {cl : Cl} {k : Nat} {pins : List (Addr × Obj)} {σ : L2.St} {H : Hp} {s : Shared}
theorem sq_mix (I : L2.Inv X pins σ H s) {a : Addr} {xs ys : List V} (h : SqL X.K H a xs) (q : SqT X.K H a ys) : False := by
  obtain ⟨its, _, p, _⟩ := I.list h
  obtain ⟨its2, _, p2, _⟩ := I.tuple q
  obtain ⟨o, e, c, _⟩ := p.isList
  obtain ⟨o2, e2, c2, _⟩ := p2
  rw [e] at e2
  cases e2
  rw [c] at c2
  exact absurd (Value.type.inj c2) (by decide)
mutual
theorem dp_fun (I : L2.Inv X pins σ H s) : ∀ (d : PyData) {v : V} {e : PyData}, Dp X.K H v d → Dp X.K H v e → d = e
  | .none, _, _, h, q => by cases h; cases q; rfl
  | .bool _, _, _, h, q => by cases h; cases q; rfl
  | .int _, _, _, h, q => by cases h; cases q; rfl
  | .str _, _, _, h, q => by cases h; cases q; rfl
  | .list ds, _, _, h, q => by
    cases h with
    | lst h1 h2 =>
      cases q with
      | lst q1 q2 => rw [I.list_inj q1 h1] at q2; rw [dps_fun I ds h2 q2]
      | tup q1 _ => exact (sq_mix I h1 q1).elim
  | .tuple ds, _, _, h, q => by
    cases h with
    | tup h1 h2 =>
      cases q with
      | tup q1 q2 => rw [I.tuple_inj q1 h1] at q2; rw [dps_fun I ds h2 q2]
      | lst q1 _ => exact (sq_mix I q1 h1).elim
  | .dict _, _, _, h, _ => by cases h
theorem dps_fun (I : L2.Inv X pins σ H s) : ∀ (ds : List PyData) {vs : List V} {es : List PyData}, DpAll X.K H vs ds → DpAll X.K H vs es → ds = es
  | [], _, _, h, q => by cases h; cases q; rfl
  | d :: ds, _, _, h, q => by
    cases h with
    | cons h1 h2 =>
      cases q with
      | cons q1 q2 => rw [dp_fun I d h1 q1, dps_fun I ds h2 q2]
end
theorem data_of {st : Sto} {x y : W} {b : Bool} (h : dataEq st x y = some b) : ∃ d e, toD st dep x = some d ∧ toD st dep y = some e ∧ SeqAt.shaped d = true ∧ SeqAt.shaped e = true ∧ PyData.eqv d e = b := by
  unfold dataEq at h
  split at h
  · rename_i d e h1 h2
    split at h
    · rename_i c
      simp only [Bool.and_eq_true] at c
      exact ⟨d, e, h1, h2, c.1, c.2, Option.some.inj h⟩
    · cases h
  · cases h
theorem noerr_I {x y : W} {st : Sto} {e : Exn} {st' : Sto} : eqI G cl x y st ≠ .err e st' := fun h => by
  unfold eqI at h
  split at h
  · split at h
    · split at h
      · unfold blR at h
        split at h <;> cases h
      · cases h
    · cases h
  · cases h
theorem stoEq_eq : ∀ {a b : Sto}, stoEq a b = true → a = b
  | [], b, h => by cases b <;> first | rfl | (simp [stoEq] at h)
  | o :: r, b, h => by
    cases b with
    | nil => simp [stoEq] at h
    | cons p t =>
      simp only [stoEq, Bool.and_eq_true] at h
      rw [Ob.beq_eq h.1, stoEq_eq h.2]
theorem zip_inj {ns : List Str} : ∀ {vs us : List V}, ns.length = vs.length → ns.length = us.length → ns.zip vs = ns.zip us → vs = us := by
  induction ns with
  | nil => intro vs us h1 h2 _; rw [List.eq_nil_of_length_eq_zero h1.symm, List.eq_nil_of_length_eq_zero h2.symm]
  | cons n ns ih =>
    intro vs us h1 h2 h
    cases vs with
    | nil => simp at h1
    | cons v vs =>
      cases us with
      | nil => simp at h2
      | cons u us =>
        simp only [List.zip_cons_cons, List.cons.injEq, Prod.mk.injEq] at h
        rw [h.1.2, ih (by simpa using h1) (by simpa using h2) h.2]
mutual
theorem dif_same (I : L2.Inv X pins σ H s) {ad : Ad} : ∀ (w : W) {w' : W} {v : V}, RV X.K ad H w v → RV X.K ad H w' v → W.dif w w' = false
  | .bl a, w', v, h, q => by
    cases w' <;> first | rfl | skip
    rw [show v = _ from h] at q
    cases q
    simp [W.dif]
  | .int a, w', v, h, q => by
    cases w' <;> first | rfl | skip
    rw [show v = _ from h] at q
    cases q
    simp [W.dif]
  | .str a, w', v, h, q => by
    cases w' <;> first | rfl | skip
    rw [show v = _ from h] at q
    cases q
    simp [W.dif]
  | .tup xs, w', v, h, q => by
    cases w' <;> first | rfl | skip
    obtain ⟨a, vs, rfl, h1, h2⟩ := h
    obtain ⟨b, us, e, q1, q2⟩ := q
    cases e
    rw [I.tuple_inj q1 h1] at q2
    exact difs_same I xs h2 q2
  | .obj C ns xs, w', v, h, q => by
    cases w' <;> first | rfl | skip
    rename_i D ms ys
    obtain ⟨a, dx, vs, rfl, h1, n1, h2⟩ := h
    obtain ⟨b, dy, us, e, q1, n2, q2⟩ := q
    cases e
    simp only [W.dif]
    by_cases hn : ns = ms
    · subst hn
      rw [h1] at q1
      simp only [Option.some.injEq, HO.ins.injEq] at q1
      have e : vs = us := zip_inj (n1.2.trans h2.length) (n2.2.trans q2.length) q1.2.2
      subst e
      rw [difs_same I xs h2 q2]
      simp
    · simp [hn]
  | .non, w', v, h, q => by cases w' <;> rfl
  | .fzl _, w', v, h, q => by cases w' <;> rfl
  | .vl _, w', v, h, q => by cases w' <;> rfl
  | .ref _, w', v, h, q => by cases w' <;> rfl
  | .glo _, w', v, h, q => by cases w' <;> rfl
  | .bty _, w', v, h, q => by cases w' <;> rfl
theorem difs_same (I : L2.Inv X pins σ H s) {ad : Ad} : ∀ (ws : List W) {ws' : List W} {vs : List V}, RVs X.K ad H ws vs → RVs X.K ad H ws' vs → W.difs ws ws' = false
  | [], ws', vs, h, q => by
    rw [show vs = [] from h] at q
    cases ws' with
    | nil => rfl
    | cons w ws' => obtain ⟨_, _, e, _⟩ := q; cases e
  | w :: ws, ws', vs, h, q => by
    obtain ⟨v, r, rfl, h1, h2⟩ := h
    cases ws' with
    | nil => cases q
    | cons w' ws' =>
      obtain ⟨u, t, e, q1, q2⟩ := q
      cases e
      simp only [W.difs, dif_same I w h1 q1, difs_same I ws h2 q2, Bool.or_self]
end
/-- one and the same thing -/
theorem eq_same (I : L2.Inv X pins σ H s) {ad : Ad} {st : Sto} (S : SimH X.K ad st H) : ∀ (n : Nat) {w w' : W} {v : V}, RV X.K ad H w v → RV X.K ad H w' v → eqG G cl n w w' st = .stuck ∨ eqG G cl n w w' st = .ok true st
  | 0, _, _, _, _, _ => .inl rfl
  | n + 1, w, w', v, r, r' => by
    simp only [eqG]
    cases hd : dataEq st w w' with
    | some b =>
      obtain ⟨d, e, h1, h2, c1, c2, rfl⟩ := data_of hd
      have e0 := dp_fun I d (toD_rel S _ r h1) (toD_rel S _ r' h2)
      subst e0
      rw [SeqAt.eqv_refl d (SeqAt.canLay_of_shaped c1)]
      exact .inr rfl
    | none =>
      simp only
      split
      · rename_i xs ys
        obtain ⟨a, vs, rfl, h1, h2⟩ := r
        obtain ⟨a', vs', e, h1', h2'⟩ := r'
        cases e
        rw [I.tuple_inj h1' h1] at h2'
        have hl : (xs.length == ys.length) = true := by rw [h2.length, h2'.length]; simp
        rw [hl]
        have : ∀ (xs ys : List W) (vs : List V), RVs X.K ad H xs vs → RVs X.K ad H ys vs → eqAll (eqG G cl n) true xs ys st = .stuck ∨ eqAll (eqG G cl n) true xs ys st = .ok true st := by
          intro xs
          induction xs with
          | nil => intro ys vs _ _; exact .inr (by cases ys <;> rfl)
          | cons x xs ih =>
            intro ys vs q q'
            cases ys with
            | nil => exact .inr rfl
            | cons y ys =>
              obtain ⟨v1, vr, rfl, q1, q2⟩ := q
              obtain ⟨v2, vr', e, q1', q2'⟩ := q'
              cases e
              simp only [eqAll]
              rcases eq_same I S n q1 q1' with h | h
              · rw [h]; exact .inl rfl
              · rw [h]
                exact ih ys vr q2 q2'
        exact this xs ys vs h2 h2'
      · rename_i i j
        obtain ⟨a, h1, rfl⟩ := r
        obtain ⟨a', h1', e⟩ := r'
        cases e
        have : i = j := (List.getElem?_inj (List.getElem?_eq_some_iff.mp h1).1 S.nd).mp (h1.trans h1'.symm)
        rw [if_pos this]
        exact .inr rfl
      · unfold eqO
        cases he : eqI G cl _ _ st with
        | stuck => exact .inl rfl
        | err e st1 =>
          exfalso
          exact noerr_I he
        | ok b st1 =>
          simp only [R.bind]
          split
          · split
            · exact .inr rfl
            · exact .inl rfl
          · rw [dif_same I _ r r']
            exact .inl rfl
      · exact .inl rfl
theorem flds_ins {ad : Ad} {st : Sto} {w : W} {a : Addr} {C : Str} {fs : List (Str × W)} (S : SimH X.K ad st H) (r : RV X.K ad H w (.ref a)) (h : fldsOf st w = some (C, fs)) : ∃ dx vs, H a = some (.ins (He.ga X.K C) dx vs) := by
  obtain ⟨b, dx, vs, e, k, _⟩ := fldsOf_rel S r h
  cases e
  exact ⟨dx, vs, k⟩
/-- a call of f, somewhere below the running body -/
structure SubG (X : Cx) (n : Nat) (A : Around) : Prop where
  room : Rm n A
  fr : A.frames = X.A.frames
theorem SubG.in1 {X : Cx} {n : Nat} {A : Around} (h : SubG X (n + 1) A) : SubG X n A.in1 := ⟨h.room.in1, h.fr⟩
theorem SubG.mono {X : Cx} {n m : Nat} {A : Around} (h : SubG X n A) (l : m ≤ n) : SubG X m A := ⟨h.room.mono l, h.fr⟩
theorem sub_call {pr : List Str × Bool} {A : Around} {f : Addr} {us : List Value} {vs : List V} {Q : VK} {sp : Sp} (F : FnG X.prog X.w X.K X.mg X.base (L2.CX X.prog X.w) k f pr sp) (sb : SubG X k A) (I : L2.Inv X pins σ H s) (r : Vals vs us) (h : sp vs H Q (fun _ _ _ => False)) :
    wpAny (model X.prog X.w) A (call (.ref f) us) (EP X pins σ Q) X.xe s := by
  have e0 : Env0 X.prog X.w X.K X.mg X.base A X.stack s H := by
    have e := I.env0
    exact ⟨by rw [sb.fr]; exact e.frames, e.mod, e.bs, e.bsz, e.funs, e.frf, e.hok, e.bare⟩
  refine wpAny_call (codeAny_mono (F A X.stack s H ⟨us, []⟩ us vs Q _ sb.room e0 (.inl rfl) r h) fun r s' hq => ?_)
  cases r with
  | error e => exact passAt (L2.takes0 (X := X)) σ pins H s e s' I hq
  | ok fl =>
    cases fl with
    | ret u => exact I.after hq
    | next => exact False.elim hq
    | brk => exact False.elim hq
    | cont => exact False.elim hq
theorem rc_ins (EO : EqOk G cl X k) {A : Around} (sb : SubG X k A) (I : L2.Inv X pins σ H s) {ad : Ad} {st : Sto} (S : SimH X.K ad st H) {w w' : W} {a b : Addr} (r1 : RV X.K ad H w (.ref a)) (r2 : RV X.K ad H w' (.ref b)) {Q : Bool → Hp → Prop} {E : XK} (g : Good X.K relB ad H (eqI G cl w w' st) Q E) :
    wpAny (model X.prog X.w) A (richCompare .Eq (.ref a) (.ref b)) (fun v s' => ∃ r H', v = .bool r ∧ L2.Inv X pins σ H' s' ∧ Q r H') X.xe s := by
  unfold eqI at g
  split at g
  · rename_i C fs D gs h1 h2
    split at g
    · rename_i hCD
      subst hCD
      split at g
      · rename_i f hf
        obtain ⟨dx, vs, k1⟩ := flds_ins S r1 h1
        obtain ⟨dy, vs', k2⟩ := flds_ins S r2 h2
        obtain ⟨e1, e2, F⟩ := EO.ok C f hf
        obtain ⟨mA, J, _⟩ := ins_get I.hok k1
        obtain ⟨mB, J', _⟩ := ins_get I.hok k2
        obtain ⟨od, J, _⟩ := J.look
        obtain ⟨od', J', _⟩ := J'.look
        obtain ⟨m, hF⟩ := I.fr
        refine PySem.W.cmp_K (op := .Eq) (tb := .ref (He.ga X.K C)) sb.room.units0 hF I.ok.mod.kin J J'.type (by simp [PySem.W.notFirst]) e1 e2 ?_
        refine wpAny_mono (sub_call (Q := fun v H' => ∃ c, v = .bl c ∧ Q c H') F sb I (vs := [.ref a, .ref b]) (.cons rfl (.cons rfl .nil)) ⟨ad, st, [w, w'], S, RVs.cons r1 (RVs.one r2), ?_⟩) (fun u s' q => ?_) fun _ _ z => z
        · cases hc : cl f [w, w'] st with
          | ok r st1 =>
            rw [hc] at g
            cases r <;> first | exact g.elim | skip
            intro ad' H' v x' S' r'
            exact ⟨_, r', g ad' H' _ x' S' rfl⟩
          | err e st1 => rw [hc] at g; exact g.elim
          | stuck => rw [hc] at g; exact g.elim
        · obtain ⟨v, H', I', rv, c, rfl, q⟩ := q
          cases rv
          exact ⟨c, H', rfl, I', q⟩
      · exact g.elim
    · exact g.elim
  · exact g.elim
/-- the items of two tuples -/
def ItsI (X : Cx) (pins : List (Addr × Obj)) (σ : L2.St) (f : W → W → Sto → R Bool) (l : Bool) (ad : Ad) (H : Hp) (xs ys : List W) (Q : Bool → Hp → Prop) (i : Nat) (s' : Shared) : Prop :=
  ∃ H' ad' st', L2.Inv X pins σ H' s' ∧ Ext ad ad' H H' ∧ SimH X.K ad' st' H' ∧ Good X.K relB ad' H' (eqAll f l (xs.drop i) (ys.drop i) st') Q (fun _ _ _ => False)
theorem its_turn {f : W → W → Sto → R Bool} {l : Bool} {A : Around} (ih : ∀ {s : Shared} {H : Hp}, L2.Inv X pins σ H s → ∀ {x y : V} {u v : Value}, RelV x u → RelV y v → ∀ {ad : Ad} {st : Sto} {w w' : W}, SimH X.K ad st H → RV X.K ad H w x → RV X.K ad H w' y → ∀ {Q : Bool → Hp → Prop}, Good X.K relB ad H (f w w' st) Q (fun _ _ _ => False) →
      wpAny (model X.prog X.w) A (eqBool u v) (fun r s' => ∃ H', L2.Inv X pins σ H' s' ∧ Q r H') X.xe s)
    {ad : Ad} {st : Sto} (S : SimH X.K ad st H) {xs ys : List W} {vs us : List V} (q1 : RVs X.K ad H xs vs) (q2 : RVs X.K ad H ys us) {its its2 : List Value} (rv : Vals vs its) (rv2 : Vals us its2) {Q : Bool → Hp → Prop} (i : Nat) (h1 : i < its.toArray.size) (h2 : i < its2.toArray.size) (s' : Shared) (st0 : ItsI X pins σ f l ad H xs ys Q i s') :
    wpAny (model X.prog X.w) A (eqBool its.toArray[i] its2.toArray[i]) (fun r s' => (r = true ∧ ItsI X pins σ f l ad H xs ys Q (i + 1) s') ∨ (r = false ∧ ∃ H', L2.Inv X pins σ H' s' ∧ Q false H')) X.xe s' := by
  obtain ⟨H1, ad1, st1, I1, x1, S1, g⟩ := st0
  have l1 : i < its.length := by simpa using h1
  have l2 : i < its2.length := by simpa using h2
  have m1 : i < xs.length := by rw [q1.length, rv.length]; exact l1
  have m2 : i < ys.length := by rw [q2.length, rv2.length]; exact l2
  obtain ⟨v1, hv1, r1⟩ := q1.get (List.getElem?_eq_getElem m1)
  obtain ⟨v2, hv2, r2⟩ := q2.get (List.getElem?_eq_getElem m2)
  obtain ⟨u1, hu1, ru1⟩ := rv.get hv1
  obtain ⟨u2, hu2, ru2⟩ := rv2.get hv2
  have e1 : its.toArray[i] = u1 := by
    rw [List.getElem?_eq_getElem l1] at hu1
    simpa using hu1
  have e2 : its2.toArray[i] = u2 := by
    rw [List.getElem?_eq_getElem l2] at hu2
    simpa using hu2
  rw [e1, e2]
  rw [List.drop_eq_getElem_cons m1, List.drop_eq_getElem_cons m2] at g
  simp only [eqAll] at g
  refine wpAny_mono (ih I1 ru1 ru2 S1 (r1.ext S x1) (r2.ext S x1) ((Good.step (rel := relB) g).mono (Q' := fun r H' => (r = true → ∃ ad' st', Ext ad ad' H H' ∧ SimH X.K ad' st' H' ∧ Good X.K relB ad' H' (eqAll f l (xs.drop (i + 1)) (ys.drop (i + 1)) st') Q (fun _ _ _ => False)) ∧ (r = false → Q false H')) fun r H2 q => ?_)) (fun r s2 q => ?_) fun _ _ z => z
  · obtain ⟨c, ad2, st2, _, x2, S2, rfl, g2⟩ := q
    refine ⟨fun z => ?_, fun z => ?_⟩
    · subst z
      exact ⟨ad2, st2, x1.trans x2, S2, g2⟩
    · subst z
      exact g2.ok_ S2 rfl
  · obtain ⟨H2, I2, k1, k2⟩ := q
    cases r with
    | true =>
      obtain ⟨ad2, st2, x2, S2, g2⟩ := k1 rfl
      exact .inl ⟨rfl, H2, ad2, st2, I2, x2, S2, g2⟩
    | false => exact .inr ⟨rfl, H2, I2, k2 rfl⟩
theorem its_end {f : W → W → Sto → R Bool} {l : Bool} {ad : Ad} {xs ys : List W} {Q : Bool → Hp → Prop} {i : Nat} {s' : Shared} (hi : xs.length ≤ i ∨ ys.length ≤ i) (h : ItsI X pins σ f l ad H xs ys Q i s') : ∃ H', L2.Inv X pins σ H' s' ∧ Q l H' := by
  obtain ⟨H1, ad1, st1, I1, x1, S1, g⟩ := h
  have e : eqAll f l (xs.drop i) (ys.drop i) st1 = .ok l st1 := by
    rcases hi with h | h
    · rw [List.drop_of_length_le h]
      cases ys.drop i <;> rfl
    · rw [List.drop_of_length_le h]
      cases xs.drop i <;> rfl
  rw [e] at g
  exact ⟨H1, I1, g.ok_ S1 rfl⟩
theorem rc_tup {f : W → W → Sto → R Bool} {A : Around} (hu : A.units < cLine) (ih : ∀ {s : Shared} {H : Hp}, L2.Inv X pins σ H s → ∀ {x y : V} {u v : Value}, RelV x u → RelV y v → ∀ {ad : Ad} {st : Sto} {w w' : W}, SimH X.K ad st H → RV X.K ad H w x → RV X.K ad H w' y → ∀ {Q : Bool → Hp → Prop}, Good X.K relB ad H (f w w' st) Q (fun _ _ _ => False) →
      wpAny (model X.prog X.w) A.in1 (eqBool u v) (fun r s' => ∃ H', L2.Inv X pins σ H' s' ∧ Q r H') X.xe s)
    (I : L2.Inv X pins σ H s) {ad : Ad} {st : Sto} (S : SimH X.K ad st H) {xs ys : List W} {vs us : List V} {a b : Addr} (t1 : SqT X.K H a vs) (t2 : SqT X.K H b us) (q1 : RVs X.K ad H xs vs) (q2 : RVs X.K ad H ys us) {Q : Bool → Hp → Prop} (g : Good X.K relB ad H (eqAll f (xs.length == ys.length) xs ys st) Q (fun _ _ _ => False)) :
    wpAny (model X.prog X.w) A (richCompare .Eq (.ref a) (.ref b)) (fun v s' => ∃ r H', v = .bool r ∧ L2.Inv X pins σ H' s' ∧ Q r H') X.xe s ∧
    wpAny (model X.prog X.w) A (richCompare .NotEq (.ref a) (.ref b)) (fun v s' => ∃ r H', v = .bool (!r) ∧ L2.Inv X pins σ H' s' ∧ Q r H') X.xe s := by
  obtain ⟨its, rv, p, _⟩ := I.tuple t1
  obtain ⟨its2, rv2, p2, _⟩ := I.tuple t2
  obtain ⟨⟨cls, dd, data, sl⟩, ho, hc, n, hd⟩ := id p
  obtain ⟨⟨cls2, dd2, data2, sl2⟩, ho2, hc2, n2, hd2⟩ := id p2
  simp only at hc hd hc2 hd2
  subst hc hd hc2 hd2
  have hs1 : its.toArray.size = xs.length := by rw [List.size_toArray, ← rv.length, ← q1.length]
  have hs2 : its2.toArray.size = ys.length := by rw [List.size_toArray, ← rv2.length, ← q2.length]
  have start : ItsI X pins σ f (xs.length == ys.length) ad H xs ys Q 0 s := ⟨H, ad, st, I, Ext.refl, S, g⟩
  have stop : ∀ s', ItsI X pins σ f (xs.length == ys.length) ad H xs ys Q (min its.toArray.size its2.toArray.size) s' → ∃ H', L2.Inv X pins σ H' s' ∧ Q (xs.length == ys.length) H' := fun s' h => its_end (by rw [hs1, hs2]; omega) h
  constructor
  · refine wpAny_richCompare_same_room (op := .Eq) ⟨_, ho, rfl⟩ ⟨_, ho2, rfl⟩ F.slot_tuple_eq (GQ.call_here F.slot_tuple_eq ⟨_, ho, rfl⟩ F.entry_tuple_eq (F.args_tuple_eq_2 _ _) ?_) hu
    refine tup_eqB (R := wants (fun v s' => v ≠ .notImplemented ∧ ∃ r H', v = .bool r ∧ L2.Inv X pins σ H' s' ∧ Q r H') X.xe) a b its.toArray its2.toArray n n2 dd dd2 sl sl2 _ (fun s' => ∃ H', L2.Inv X pins σ H' s' ∧ Q false H') (fun i h1 h2 s' z => its_turn (fun I' => ih I') S q1 q2 rv rv2 i h1 h2 s' z) (fun s' z => ⟨(fun q => nomatch q), ?_⟩) (fun s' z => ⟨(fun q => nomatch q), ?_⟩) ho ho2 start
    · obtain ⟨H', I', q⟩ := stop s' z
      exact ⟨_, H', by rw [hs1, hs2], I', q⟩
    · obtain ⟨H', I', q⟩ := z
      exact ⟨_, H', rfl, I', q⟩
  · refine wpAny_richCompare_same_room (op := .NotEq) ⟨_, ho, rfl⟩ ⟨_, ho2, rfl⟩ F.slot_tuple_ne (GQ.call_here F.slot_tuple_ne ⟨_, ho, rfl⟩ F.entry_tuple_ne (F.args_tuple_ne_2 _ _) ?_) hu
    refine tup_neB (R := wants (fun v s' => v ≠ .notImplemented ∧ ∃ r H', v = .bool (!r) ∧ L2.Inv X pins σ H' s' ∧ Q r H') X.xe) a b its.toArray its2.toArray n n2 dd dd2 sl sl2 _ (fun s' => ∃ H', L2.Inv X pins σ H' s' ∧ Q false H') (fun i h1 h2 s' z => its_turn (fun I' => ih I') S q1 q2 rv rv2 i h1 h2 s' z) (fun s' z => ⟨(fun q => nomatch q), ?_⟩) (fun s' z => ⟨(fun q => nomatch q), ?_⟩) ho ho2 start
    · obtain ⟨H', I', q⟩ := stop s' z
      exact ⟨_, H', by rw [hs1, hs2], I', q⟩
    · obtain ⟨H', I', q⟩ := z
      exact ⟨_, H', rfl, I', q⟩
theorem eq_ok (EO : EqOk G cl X k) : ∀ (n : Nat) {A : Around}, SubG X (k + n) A → ∀ {s : Shared} {H : Hp}, L2.Inv X pins σ H s → ∀ {x y : V} {u v : Value}, RelV x u → RelV y v → ∀ {ad : Ad} {st : Sto} {w w' : W}, SimH X.K ad st H → RV X.K ad H w x → RV X.K ad H w' y → ∀ {Q : Bool → Hp → Prop}, Good X.K relB ad H (eqG G cl n w w' st) Q (fun _ _ _ => False) →
      wpAny (model X.prog X.w) A (eqBool u v) (fun r s' => ∃ H', L2.Inv X pins σ H' s' ∧ Q r H') X.xe s
  | 0, _, _, _, _, _, _, _, _, _, _, _, _, _, _, _, _, _, _, _, g => g.elim
  | n + 1, A, sb, s, H, I, x, y, u, v, rx, ry, ad, st, w, w', S, r1, r2, Q, g => by
    simp only [eqG] at g
    split at g
    · rename_i b hb
      obtain ⟨d, e, h1, h2, c1, c2, rfl⟩ := data_of hb
      obtain ⟨as, z1⟩ := Dp.reads I d x u (toD_rel S _ r1 h1) rx
      obtain ⟨bs, z2⟩ := Dp.reads I e y v (toD_rel S _ r2 h2) ry
      have hu := sb.room.un
      have h64 := SeqAt.depth_of_shaped c1
      exact SeqAt.eqAt_reads d e A s u v as bs z1 z2 (SeqAt.canLay_of_shaped c1) (SeqAt.canLay_of_shaped c2) (by omega) X.prog X.w X.xe _ ⟨H, I, g.ok_ S rfl⟩
    · rename_i hb
      split at g
      · rename_i xs ys
        have rr1 := r1
        have rr2 := r2
        obtain ⟨a, vs, rfl, t1, q1⟩ := r1
        obtain ⟨b, us, rfl, t2, q2⟩ := r2
        cases rx
        cases ry
        by_cases hab : a = b
        · subst hab
          have sm := eq_same (G := G) (cl := cl) I S (n + 1) rr1 rr2
          simp only [eqG, hb] at sm
          rcases sm with sm | sm
          · rw [sm] at g; exact g.elim
          · rw [sm] at g
            exact SeqAt.EqAt.same (A := A) (s := s) (.ref a) X.prog X.w X.xe _ ⟨H, I, g.ok_ S rfl⟩
        · refine GQ.eqBool_refG hab (wpAny_mono (rc_tup sb.room.units0 (fun {s H} I' {x y u v} rx' ry' {ad st w w'} S' a' b' {Q} g' => eq_ok EO n sb.in1 I' rx' ry' S' a' b' g') I S t1 t2 q1 q2 g).1 (fun z s' q => ?_) fun _ _ z => z)
          obtain ⟨r, H', rfl, I', q⟩ := q
          exact ⟨r, rfl, H', I', q⟩
      · rename_i i j
        split at g
        · rename_i hij
          subst hij
          obtain ⟨a, h1, rfl⟩ := r1
          obtain ⟨b, h2, rfl⟩ := r2
          rw [h1] at h2
          cases h2
          cases rx
          cases ry
          exact SeqAt.EqAt.same (A := A) (s := s) (.ref a) X.prog X.w X.xe _ ⟨H, I, g.ok_ S rfl⟩
        · rename_i hij
          have rr1 := r1
          have rr2 := r2
          obtain ⟨a, h1, rfl⟩ := r1
          obtain ⟨b, h2, rfl⟩ := r2
          cases rx
          cases ry
          have hab : a ≠ b := fun z => by
            subst z
            exact hij ((List.getElem?_inj (List.getElem?_eq_some_iff.mp h1).1 S.nd).mp (h1.trans h2.symm))
          refine GQ.eqBool_refG hab (wpAny_mono (rc_ins EO (sb.mono (by omega)) I S rr1 rr2 g) (fun z s' q => ?_) fun _ _ z => z)
          obtain ⟨r, H', rfl, I', q⟩ := q
          exact ⟨r, rfl, H', I', q⟩
      · rename_i C ns xs D ms ys
        have rr1 := r1
        have rr2 := r2
        obtain ⟨a, dx, vs, rfl, k1, n1, q1⟩ := r1
        obtain ⟨b, dy, us, rfl, k2, n2, q2⟩ := r2
        cases rx
        cases ry
        by_cases hab : a = b
        · subst hab
          have sm := eq_same (G := G) (cl := cl) I S (n + 1) rr1 rr2
          simp only [eqG, hb] at sm
          rcases sm with sm | sm
          · rw [sm] at g; exact g.elim
          · rw [sm] at g
            exact SeqAt.EqAt.same (A := A) (s := s) (.ref a) X.prog X.w X.xe _ ⟨H, I, g.ok_ S rfl⟩
        · unfold eqO at g
          have g' : Good X.K relB ad H (eqI G cl (.obj C ns xs) (.obj D ms ys) st) Q (fun _ _ _ => False) := by
            cases he : eqI G cl (.obj C ns xs) (.obj D ms ys) st with
            | stuck => rw [he] at g; exact g
            | err e st1 => rw [he] at g; exact g
            | ok c st1 =>
              rw [he] at g
              simp only [R.bind] at g
              cases c with
              | true =>
                simp only [if_true] at g
                split at g
                · rename_i hst
                  rw [← stoEq_eq hst]
                  exact g
                · exact g.elim
              | false =>
                simp only [Bool.false_eq_true, if_false] at g
                split at g
                · exact g
                · exact g.elim
          refine GQ.eqBool_refG hab (wpAny_mono (rc_ins EO (sb.mono (by omega)) I S rr1 rr2 g') (fun z s' q => ?_) fun _ _ z => z)
          obtain ⟨r, H', rfl, I', q⟩ := q
          exact ⟨r, rfl, H', I', q⟩
      · exact g.elim
def rEqT (K : PySem.W.Frag) (G : Prg) (cl : Cl) (neg : Bool) : R2 := fun x y H Q => ∃ ad st w1 w2 E, SimH K ad st H ∧ RV K ad H w1 x ∧ RV K ad H w2 y ∧ Good K (rV K) ad H (eqT G cl neg w1 w2 st) Q E
theorem eqT_good {K : PySem.W.Frag} {ad : Ad} {neg : Bool} {w1 w2 : W} {st : Sto} {Q : VK} {E : XK} (g : Good K (rV K) ad H (eqT G cl neg w1 w2 st) Q E) : Good K relB ad H (eqT0 G cl neg w1 w2 st) (fun b H' => Q (.bl (if neg then !b else b)) H') E := by
  unfold eqT at g
  refine (Good.step (rel := relB) g).mono fun b H' q => ?_
  obtain ⟨c, ad1, st1, _, x1, S1, rfl, g1⟩ := q
  exact g1.ok_ S1 rfl
theorem noerr_eq {f : W → W → Sto → R Bool} (hf : ∀ x y st e st', f x y st ≠ .err e st') (l : Bool) : ∀ (xs ys : List W) (st : Sto) (e : Exn) (st' : Sto), eqAll f l xs ys st ≠ .err e st'
  | [], ys, st, e, st', h => by cases ys <;> cases h
  | x :: xs, [], st, e, st', h => by cases h
  | x :: xs, y :: ys, st, e, st', h => by
    simp only [eqAll] at h
    cases hc : f x y st with
    | ok b st1 =>
      rw [hc] at h
      simp only [R.bind] at h
      split at h
      · exact noerr_eq hf l xs ys _ _ _ h
      · cases h
    | err e1 st1 => exact hf _ _ _ _ _ hc
    | stuck => rw [hc] at h; cases h
theorem noerr_G : ∀ (n : Nat) (x y : W) (st : Sto) (e : Exn) (st' : Sto), eqG G cl n x y st ≠ .err e st'
  | 0, _, _, _, _, _, h => by cases h
  | n + 1, x, y, st, e, st', h => by
    simp only [eqG] at h
    split at h
    · cases h
    · split at h
      · exact noerr_eq (noerr_G n) _ _ _ _ _ _ h
      · split at h
        · cases h
        · exact noerr_I h
      · unfold eqO at h
        cases he : eqI G cl _ _ st with
        | stuck => rw [he] at h; cases h
        | err e st1 => exact noerr_I he
        | ok b st1 =>
          rw [he] at h
          simp only [R.bind] at h
          split at h
          · split at h <;> cases h
          · split at h <;> cases h
      · cases h
theorem good_noerr {α β : Type} {K : PySem.W.Frag} {rel : Ad → Hp → α → β → Prop} {ad : Ad} {r : R α} {Q : β → Hp → Prop} {E E' : XK} (hn : ∀ e st', r ≠ .err e st') (g : Good K rel ad H r Q E) : Good K rel ad H r Q E' := by
  cases r with
  | ok a st => exact g
  | err e st => exact absurd rfl (hn e st)
  | stuck => exact g
theorem or_eqT (EO : EqOk G cl X k) (hr : Rm (k + eqDp + 1) X.A) (neg : Bool) : OpR X (compareOp (if neg then .NotEq else .Eq)) (rEqT X.K G cl neg) := fun pins s σ H x y v u Q I rx ry h => by
  obtain ⟨ad, st, w1, w2, E, S, r1, r2, g⟩ := h
  have hu := hr.un
  replace g := eqT_good g
  unfold eqT0 at g
  split at g
  · rename_i b hb
    obtain ⟨d, e, h1, h2, c1, c2, rfl⟩ := data_of hb
    have q := g.ok_ S (v := PyData.eqv d e) rfl
    cases neg with
    | false => exact op_eqD (by omega) pins s σ H x y v u Q I rx ry ⟨d, e, toD_rel S _ r1 h1, toD_rel S _ r2 h2, c1, c2, q⟩
    | true => exact op_neD (by omega) pins s σ H x y v u Q I rx ry ⟨d, e, toD_rel S _ r1 h1, toD_rel S _ r2 h2, c1, c2, q⟩
  · split at g
    · rename_i xs ys
      obtain ⟨a, vs, rfl, t1, q1⟩ := r1
      obtain ⟨b, us, rfl, t2, q2⟩ := r2
      cases rx
      cases ry
      have sb : SubG X (k + eqDp + 1) X.A := ⟨hr, rfl⟩
      have g2 := good_noerr (E' := fun _ _ _ => False) (fun e st' => noerr_eq (noerr_G _) _ _ _ _ _ _) g
      have key := rc_tup (f := eqG G cl eqDp) hr.units0 (fun {s H} I' {x y u v} rx' ry' {ad st w w'} S' a' b' {Q} g' => eq_ok EO eqDp sb.in1 I' rx' ry' S' a' b' g') I S t1 t2 q1 q2 g2
      cases neg with
      | false =>
        refine wpAny_mono key.1 (fun z s' q => ?_) fun _ _ z => z
        obtain ⟨r, H', rfl, I', q⟩ := q
        exact ⟨.bl r, H', I', rfl, q⟩
      | true =>
        refine wpAny_mono key.2 (fun z s' q => ?_) fun _ _ z => z
        obtain ⟨r, H', rfl, I', q⟩ := q
        exact ⟨.bl (!r), H', I', rfl, q⟩
    · rename_i i j
      split at g
      · exact g.elim
      · rename_i hn
        have hn : neg = false := by simpa using hn
        subst hn
        have rr1 := r1
        have rr2 := r2
        obtain ⟨a, h1, rfl⟩ := r1
        obtain ⟨b, h2, rfl⟩ := r2
        cases rx
        cases ry
        refine wpAny_mono (rc_ins EO ⟨hr.mono (by omega), rfl⟩ I S rr1 rr2 g) (fun z s' q => ?_) fun _ _ z => z
        obtain ⟨r, H', rfl, I', q⟩ := q
        exact ⟨.bl r, H', I', rfl, q⟩
    · split at g
      · exact g.elim
      · rename_i hn
        have hn : neg = false := by simpa using hn
        subst hn
        have rr1 := r1
        have rr2 := r2
        obtain ⟨a, dx, vs, rfl, k1, n1, q1⟩ := r1
        obtain ⟨b, dy, us, rfl, k2, n2, q2⟩ := r2
        cases rx
        cases ry
        refine wpAny_mono (rc_ins EO ⟨hr.mono (by omega), rfl⟩ I S rr1 rr2 g) (fun z s' q => ?_) fun _ _ z => z
        obtain ⟨r, H', rfl, I', q⟩ := q
        exact ⟨.bl r, H', I', rfl, q⟩
    · exact g.elim
end
end Zv

set_option maxRecDepth 100000
set_option maxHeartbeats 4000000
/-! EvRp: repr of data. -/
namespace Zv
open PySem PySem.Spec PyProof.Rows L2
section
variable {X : Cx} {k : Nat}
theorem repr_ref {pins : List (Addr × Obj)} {σ : L2.St} {H : Hp} {s : Shared} {a : Addr} {d : PyData} {Q : VK} (hr : Rm k X.A) (I : L2.Inv X pins σ H s) (r : Dp X.K H (.ref a) d) (sh : SeqAt.shaped d = true) (hs : d.showable = true) (hz : d.shown.length ≤ szL) (nd : d.hasDict = false) (q : Q (.str d.shown) H) :
    wpAny (model X.prog X.w) X.A (call (.builtin "repr") [.ref a]) (EP X pins σ Q) X.xe s := by
  obtain ⟨as, z⟩ := Dp.reads I d (.ref a) (.ref a) r rfl
  have h64 := SeqAt.depth_of_shaped sh
  have hu := hr.un
  refine repr_of_reads' z hs (PyData.noDict_hsm nd) hr.gd (by omega) (fun _ _ e => e) (fun h' u tk hk => ?_) (Nat.le_trans hz szL_le)
  exact ⟨.str d.shown, H, I.kept (t' := tk) hk, ⟨u, rfl⟩, q⟩
theorem or_repr (hr : Rm k X.A) : CallR X (.builtin "repr") (rPn X.K .repr) := fun pins s σ H xs us Q I rs h => by
  obtain ⟨ad, st, ws, E, S, rr, g⟩ := h
  obtain ⟨w, rfl⟩ := good_one (o := .repr) (fun us st h => by unfold prim; split <;> simp_all) g
  obtain ⟨x, rfl, r⟩ := rvs_one rr
  change Good _ _ _ _ (pRepr w st) _ _ at g
  unfold pRepr at g
  split at g
  · rename_i i
    split at g
    · rename_i c
      obtain rfl : x = _ := r
      exact SkE.call_repr_int pins s σ H _ us Q I rs ⟨i, rfl, c, g.ok_ S rfl⟩
    · exact g.elim
  · obtain rfl : x = _ := r
    obtain ⟨u, rfl, ru⟩ := vals1 rs
    cases ru
    exact P.repr_of_none ⟨.str "None", H, I.tok _, ⟨_, rfl⟩, g.ok_ S rfl⟩
  · rename_i b
    obtain rfl : x = _ := r
    obtain ⟨u, rfl, ru⟩ := vals1 rs
    cases ru
    exact P.repr_of_bool ⟨.str (if b then "True" else "False"), H, I.tok _, ⟨_, by cases b <;> rfl⟩, g.ok_ S (by cases b <;> rfl)⟩
  · have go : ∀ (d : PyData), (∃ ds, d = .tuple ds) ∨ (∃ ds, d = .list ds) → toD st dep w = some d → reprOk d = true → Q (.str (PyData.shown d)) H → wpAny (model X.prog X.w) X.A (call (.builtin "repr") us) (EP X pins σ Q) X.xe s := by
      intro d hd ht hk q
      simp only [reprOk, Bool.and_eq_true, decide_eq_true_eq, Bool.not_eq_true'] at hk
      obtain ⟨k1, k2, k3, k4⟩ := hk
      have D := toD_rel S dep r ht
      obtain ⟨a, rfl⟩ : ∃ a, x = .ref a := by
        rcases hd with ⟨ds, rfl⟩ | ⟨ds, rfl⟩
        · cases D; exact ⟨_, rfl⟩
        · cases D; exact ⟨_, rfl⟩
      obtain ⟨u, rfl, ru⟩ := vals1 rs
      cases ru
      exact repr_ref hr I D k1 k2 k4 k3 q
    split at g
    · rename_i ds ht
      split at g
      · rename_i hk
        exact go _ (.inl ⟨ds, rfl⟩) ht hk (g.ok_ S rfl)
      · exact g.elim
    · rename_i ds ht
      split at g
      · rename_i hk
        exact go _ (.inr ⟨ds, rfl⟩) ht hk (g.ok_ S rfl)
      · exact g.elim
    · exact g.elim
end
end Zv

set_option maxRecDepth 100000
set_option maxHeartbeats 4000000
/-! EvSs: sorted(set(xs)) for a list of ints. -/
namespace Zv
open PySem PySem.Spec PyProof.Rows L2
section
variable {P : Program} {w : World} {A : Around} {E : Value → Shared → Prop} {s : Shared}
/-- the object that set() begins with -/
abbrev bare0 (w : World) : Obj := { cls := .type "set", dict := none, data := .set #[] 0 (.fresh 0 0 (!w.params.followText "set-order")) }
set_option maxHeartbeats 8000000 in
theorem set_of_list {l : Addr} {its : Array Value} (ns : List Int) {Q : Value → Shared → Prop} (nh : A.handled = none) (isl : s.heap.IsList l its) (hin : IntsAre its.toList ns) (few : ns.length + 1 < scanBound)
    (done : ∀ (h' : Heap) (tk c : Nat), SetR w h' s.heap.objs.size (fun j => decide (j ∈ ns)) c → c ≤ ns.length → (∀ b o, s.heap.get? b = some o → h'.get? b = some o) → Q (.ref s.heap.objs.size) { s with heap := h', toks := tk }) :
    wpAny (model P w) A (call (.type "set") [.ref l]) Q E s := by
  have esz : its.size = ns.length := by rw [← Array.length_toList]; exact IntsAre.length hin
  obtain ⟨c0, tl0, mro0⟩ := F.called_set.mro
  have f1 := F.called_set.made; have f2 := F.called_set.sub; have f3 := F.called_set.notType; have f4 := F.called_set.canCreate
  have f5 := F.typeCall_set_1 (.ref l)
  refine wpAny_call (codeAny_of_tree (?_ : wpAny _ _ (callAny (.type "set") _) _ _ _))
  refine wpAny_pure ⟨Code.quiet_builtin _ (by decide +kernel), codeAny_builtin F.entry_type_call ?_⟩
  rw [Around.under_plain (weight_type_call_type "set" [.ref l] []) rfl]
  repeat (any_goals (first | assumption | wp_step))
  refine codeAny_mono (code_set_led1 (.ref l) (E := E) (Q₁ := fun v s1 => v = .ref s.heap.objs.size ∧ s1 = { s with heap := s.heap.push (bare0 w) }) ⟨rfl, rfl⟩) fun r s1 hr => ?_
  rcases r with e | fl
  · exact hr
  rcases fl with _ | v | _ | _ <;> try exact hr.elim
  obtain ⟨rfl, rfl⟩ := hr
  have at0 : (s.heap.push (bare0 w)).get? s.heap.objs.size = some (bare0 w) := Heap.get?_push_size _ rfl
  have ty0 : Shared.TypeIs { s with heap := s.heap.push (bare0 w) } (.ref s.heap.objs.size) "set" := ⟨_, at0, rfl⟩
  have f6 := F.called_set.init.lookup; have f7 := F.called_set.init.bind (.ref s.heap.objs.size)
  repeat (any_goals (first | assumption | wp_step))
  refine codeAny_mono (codeAny_call_builtin (R := wants (fun r s2 => r = .none ∧ ∃ h' tk c, s2 = { s with heap := h', toks := tk } ∧ SetR w h' s.heap.objs.size (fun j => decide (j ∈ ns)) c ∧ c ≤ ns.length ∧ (∀ b o, s.heap.get? b = some o → h'.get? b = some o)) E) F.called_set.init.plain F.entry_set_init (check_set_init_1 ty0 ?_)) fun r2 s2 hr2 => ?_
  · obtain ⟨ol, hol, hcl, nl, hdl⟩ := isl
    obtain ⟨oc, od, odt, osl⟩ := ol
    simp only at hcl hdl
    subst hcl hdl
    have atl : (s.heap.push (bare0 w)).get? l = some { cls := .type "list", dict := od, data := .seq its nl, slots := osl } := Heap.get?_push_of_some _ hol
    have g1 := F.sub_list_set; have g2 := F.sub_list_frozenset
    have g3 : (Value.type "list" == Value.type "dict") = false := by decide
    have isl1 : (s.heap.push (bare0 w)).IsList l its := ⟨_, atl, rfl, nl, rfl⟩
    have hlS : l < s.heap.objs.size := Heap.lt_size hol
    unfold Builtin.«set.__init__» noKeywords Builtin.Frozenset.updateFrom
    generalize keepIt : pyIter = PI0
    wp_walk
    subst keepIt
    refine wpAny_pyIter_list isl1 (wpAny_bind (wpAny_runValue ?_))
    have nh3 : A.in1.in1.in1.handled = none := by simp [nh]
    have zsz : (s.heap.push (bare0 w)).objs.size = s.heap.objs.size + 1 := Heap.size_push ..
    have ne1 : l ≠ (s.heap.push (bare0 w)).objs.size := zsz ▸ Nat.ne_of_lt (Nat.lt_succ_of_lt hlS)
    have ne2 : s.heap.objs.size ∉ [(s.heap.push (bare0 w)).objs.size, l] := fun hm => by
      rw [zsz] at hm
      rcases List.mem_cons.mp hm with e | e
      · exact absurd e (Nat.ne_of_lt (Nat.lt_succ_self _))
      · exact absurd (List.mem_singleton.mp e) (Nat.ne_of_gt hlS)
    have vals : ∀ (i : Nat) (v : Value), its[i]? = some v → ∃ k t, ns[i]? = some k ∧ v = .int k t := fun i v hv => by
      have hi : i < ns.length := by have := (Array.getElem?_eq_some_iff.mp hv).1; omega
      obtain ⟨t, e⟩ := IntsAre.int_at hin i v (by rw [Array.getElem?_toList]; exact hv)
      exact ⟨ns[i], t, List.getElem?_eq_getElem hi, by rw [e, List.getD_eq_getElem?_getD, List.getElem?_eq_getElem hi]; rfl⟩
    refine set_update_ints ((Walks.list nh3 _ l ne1 its).toS) s.heap.objs.size ne2 ns esz few vals (its.size - 0) 0 _ (by omega) (Nat.zero_le _) ⟨⟨_, Heap.get?_push_size _ rfl, rfl, rfl⟩, (isl1.push _)⟩ ⟨0, Nat.le_refl 0, setR_new_at (Heap.get?_push_of_some _ at0)⟩ ?_
    intro s' c' hm hc' hS'
    obtain ⟨h', gs', d', tk', os'⟩ := s'
    obtain rfl : gs' = s.gens := hm.gens
    obtain rfl : d' = s.drawn := hm.drawn
    obtain rfl : os' = s.os := hm.os
    refine wpAny_pure (?_ : wpAny _ _ (ret Value.none) _ _ _)
    rw [esz] at hc'
    refine wpAny_pure ⟨rfl, h', tk', c', rfl, hS', hc', fun b o e => ?_⟩
    have hb0 : b < s.heap.objs.size := Heap.lt_size e
    refine hm.heap b o (fun hx => ?_) (Heap.get?_push_of_some _ (Heap.get?_push_of_some _ e))
    rw [zsz] at hx
    rcases List.mem_cons.mp hx with e | e
    · exact absurd e (Nat.ne_of_lt hb0)
    · exact absurd (List.mem_singleton.mp e) (Nat.ne_of_lt (Nat.lt_succ_of_lt hb0))
  · rcases r2 with e | fl2
    · exact hr2
    rcases fl2 with _ | v | _ | _ <;> try exact hr2.elim
    obtain ⟨rfl, h', tk, c', rfl, hS', hc', hk'⟩ := hr2
    repeat (any_goals (first | assumption | wp_step))
    exact done _ _ _ hS' hc' hk'
end
theorem mem_ins {n k : Int} : ∀ {ms : List Int}, k ∈ insS n ms ↔ k = n ∨ k ∈ ms
  | [] => by simp [insS]
  | m :: ms => by
    unfold insS
    split
    · simp
    · split
      · rename_i h; subst h; simp
      · simp [mem_ins (ms := ms)]; constructor <;> rintro (h | h | h) <;> simp [h]
theorem asc_ins {n : Int} : ∀ {ms : List Int}, ms.Pairwise (· < ·) → (insS n ms).Pairwise (· < ·)
  | [], _ => by simp [insS]
  | m :: ms, h => by
    obtain ⟨h1, h2⟩ := List.pairwise_cons.mp h
    unfold insS
    split
    · rename_i hn
      refine List.pairwise_cons.mpr ⟨fun k hk => ?_, h⟩
      rcases List.mem_cons.mp hk with rfl | hk
      · exact hn
      · have := h1 k hk; omega
    · split
      · exact h
      · refine List.pairwise_cons.mpr ⟨fun k hk => ?_, asc_ins h2⟩
        rcases mem_ins.mp hk with rfl | hk
        · omega
        · exact h1 k hk
theorem mem_sset {ns : List Int} {k : Int} : k ∈ ssetI ns ↔ k ∈ ns := by
  induction ns with
  | nil => simp [ssetI]
  | cons n ns ih =>
    have e : ssetI (n :: ns) = insS n (ssetI ns) := rfl
    rw [e, mem_ins, ih, List.mem_cons]
theorem asc_sset {ns : List Int} : (ssetI ns).Pairwise (· < ·) := by
  induction ns with
  | nil => exact List.Pairwise.nil
  | cons n ns ih => exact asc_ins ih
theorem asc_uniq : ∀ {xs ys : List Int}, xs.Pairwise (· < ·) → ys.Pairwise (· < ·) → (∀ k, k ∈ xs ↔ k ∈ ys) → xs = ys
  | [], [], _, _, _ => rfl
  | [], y :: ys, _, _, h => by simpa using (h y).mpr (by simp)
  | x :: xs, [], _, _, h => by simpa using (h x).mp (by simp)
  | x :: xs, y :: ys, h1, h2, h => by
    obtain ⟨a1, a2⟩ := List.pairwise_cons.mp h1
    obtain ⟨b1, b2⟩ := List.pairwise_cons.mp h2
    have e : x = y := by
      rcases List.mem_cons.mp ((h x).mp (by simp)) with e | e
      · exact e
      · rcases List.mem_cons.mp ((h y).mpr (by simp)) with e2 | e2
        · exact e2.symm
        · have := b1 x e; have := a1 y e2; omega
    subst e
    rw [asc_uniq a2 b2 fun k => ?_]
    constructor
    · intro hk
      rcases List.mem_cons.mp ((h k).mp (by simp [hk])) with e | e
      · subst e; have := a1 _ hk; omega
      · exact e
    · intro hk
      rcases List.mem_cons.mp ((h k).mpr (by simp [hk])) with e | e
      · subst e; have := b1 _ hk; omega
      · exact e
section
variable {X : Cx} {WW : WX} {a : Expr} {G : Prg} {cl : Cl} {ca : Ex}
def rSetL (X : Cx) : List V → Hp → VK → Prop := fun vs H Q => ∃ (a : Addr) (ns : List Int), vs = [V.ref a] ∧ SqL X.K H a (ns.map V.int) ∧ ns.length < 64 ∧ ∀ (p : Addr) (c : Nat), H p = none → c ≤ ns.length → Q (.ref p) (upd H p (SetO X.w p (fun j => decide (j ∈ ns)) c))
theorem cr_setL (hc : X.calm = true) : CallR X (.type "set") (rSetL X) := fun pins s σ H vs us Q I r h => by
  obtain ⟨a, ns, rfl, hl, h64, q⟩ := h
  obtain ⟨u, rfl, ru⟩ := vals1 r
  cases ru
  obtain ⟨its, iv, il, _⟩ := I.list hl
  have hs : ns.length + 1 < scanBound := by unfold scanBound; omega
  refine set_of_list ns (I.ok.hd hc) il.isList (ints_of_vals iv) hs fun h' tk c hR hc' hk => ?_
  have fr : H s.heap.objs.size = none := I.hok.fresh (Nat.le_refl _)
  exact ⟨.ref _, _, I.laid (t' := tk) hk (Nat.le_refl _) (setO_new hR), rfl, q _ c fr hc'⟩
theorem z_sset {p pos p2 pos2 : Pos} (hc : X.calm = true) (g : Gl X "set" ∧ (("set" : Str) == ("__debug__" : Str)) = false ∧ ("set" : Str) ≠ "__name__") (hm : X.mg "set" = none) (g' : Gl X "sorted" ∧ (("sorted" : Str) == ("__debug__" : Str)) = false ∧ ("sorted" : Str) ≠ "__name__") (hm' : X.mg "sorted" = none) (ha : PE X a (rdE X.K WW (ev G cl ca))) (hs : noStar a = true) :
    PE X (.Call (.Name "sorted" p) [.Call (.Name "set" p2) [a] [] pos2] [] pos) (rdE X.K WW (ev G cl (.op .sset [ca]))) := by
  have e1 := pe_callTy (p := p2) (pos := pos2) (cr_setL hc) g.1 hm (by decide +kernel) (pa_cons ha pa_nil (star_cons hs)) g.2.2 g.2.1 (star_cons hs) rfl
  have e2 := pe_callB (p := p) (pos := pos) (cr_sortedSet hc) g'.1 hm' (by decide +kernel) (pa_cons e1 pa_nil rfl) g'.2.2 g'.2.1 rfl rfl
  refine e2.imp fun σ H Q h => ?_
  obtain ⟨ad0, st0, env0, S0, s0, g0⟩ := rd_bind (rel := rV X.K) (m := ev G cl ca) (f := fun env x st1 => prim .sset [x] st1) (by
    obtain ⟨ad, st, env, S, ss, gg⟩ := h
    refine ⟨ad, st, env, S, ss, ?_⟩
    have : ev G cl (.op .sset [ca]) env st = (ev G cl ca env st).bind fun x st1 => prim .sset [x] st1 := by
      show (evs G cl [ca] env st).bind _ = _
      simp only [evs]
      cases ev G cl ca env st <;> rfl
    rw [this] at gg
    exact gg)
  refine ⟨ad0, st0, env0, S0, s0, g0.mono fun v H1 q => ?_⟩
  obtain ⟨w, ad, env, st, S, s, r, gd⟩ := q
  change Good _ _ _ _ (pSset w st) _ _ at gd
  unfold pSset at gd
  split at gd
  · rename_i ys hy
    split at gd
    · rename_i ns hn
      split at gd
      · rename_i h64
        obtain ⟨b, vs, rfl, k, rq⟩ := lstOf_rel S r hy
        have e := ints_rel rq hn
        subst e
        refine ⟨b, ns, rfl, SqL.of k, h64, fun p c hp hc' => ?_⟩
        refine ⟨p, fun j => decide (j ∈ ns), c, rfl, by simp [upd], by omega, fun ms p2 asc mem _ hp2 => ?_⟩
        have em : ms = ssetI ns := asc_uniq asc asc_sset fun k => by rw [mem, mem_sset]; simp
        subst em
        have Sx := S.side (u := SetO X.w p (fun j => decide (j ∈ ns)) c) hp
        have Ex := Ext.side (ad := ad) (o := SetO X.w p (fun j => decide (j ∈ ns)) c) hp
        have rv : RVs X.K ad (upd H1 p (SetO X.w p (fun j => decide (j ∈ ns)) c)) ((ssetI ns).map W.int) ((ssetI ns).map V.int) := by
          generalize ssetI ns = L
          induction L with
          | nil => rfl
          | cons x xs ih => exact RVs.cons rfl ih
        exact Good.new_vl Sx rv (gd.ext Ex) p2 hp2
      · exact gd.elim
    · exact gd.elim
  · exact gd.elim
end
end Zv

set_option maxRecDepth 100000
set_option maxHeartbeats 4000000
/-! EvEq2: readings of ==, !=, str(..). -/
namespace Zv
open PySem PySem.Spec PyProof.Rows L2
section
variable {X : Cx} {WW : WX} {e a b c : Expr} {G : Prg} {cl : Cl} {ca cb cc : Ex} {k : Nat}
theorem rd_eqo {neg : Bool} {σ : L2.St} {H : Hp} {Q : VK} (h : rdE X.K WW (ev G cl (.eqo neg ca cb)) σ H Q) : tOp (rEqT X.K G cl neg) (rdE X.K WW (ev G cl ca)) (rdE X.K WW (ev G cl cb)) σ H Q := by
  obtain ⟨ad, st, env, S, s, g⟩ := h
  simp only [ev] at g
  obtain ⟨ad0, st0, env0, S0, s0, g0⟩ := rd_bind (WW := WW) (rel := rV X.K) (m := ev G cl ca) (f := fun env x st1 => (ev G cl cb env st1).bind fun y st2 => eqT G cl neg x y st2) (σ := σ) (H := H) (Q := Q) ⟨ad, st, env, S, s, g⟩
  refine ⟨ad0, st0, env0, S0, s0, g0.mono fun x H1 q => ?_⟩
  obtain ⟨wx, ad, env, st, S, s, rx, g⟩ := q
  refine ⟨ad, st, env, S, s, (Good.step (rel := rV X.K) g).mono fun y H2 q2 => ?_⟩
  obtain ⟨wy, ad1, st1, _, x1, S1, ry, g1⟩ := q2
  exact ⟨ad1, st1, wx, wy, _, S1, rx.ext S x1, ry, g1⟩
theorem z_eqo {neg : Bool} {pos : Pos} (EO : EqOk G cl X k) (hr : Rm (k + eqDp + 1) X.A) (ha : PE X a (rdE X.K WW (ev G cl ca))) (hb : PE X b (rdE X.K WW (ev G cl cb))) (hm : behindInMarks (if neg then .NotEq else .Eq) b = false) :
    PE X (.Compare a [if neg then .NotEq else .Eq] [b] pos) (rdE X.K WW (ev G cl (.eqo neg ca cb))) ∧ PT X (.Compare a [if neg then .NotEq else .Eq] [b] pos) (tB (rdE X.K WW (ev G cl (.eqo neg ca cb)))) :=
  ⟨(pe_cmpR (or_eqT EO hr neg) ha hb hm).imp fun σ H Q h => rd_eqo h, (pt_cmpR (or_eqT EO hr neg) ha hb hm).imp fun σ H Q h => rd_eqo h⟩
structure StOk (G : Prg) (cl : Cl) (X : Cx) (k : Nat) : Prop where
  ok : ∀ C f, G.strm C = some f → PySem.W.findIn X.K (.ref (He.ga X.K C)) "__str__" = some (some (.ref (adr G X.K f))) ∧ PySem.W.isFn X.K (.ref (adr G X.K f)) = true ∧ FnG X.prog X.w X.K X.mg X.base (L2.CX X.prog X.w) k (adr G X.K f) (G.par f) (spC X.K cl f)
def strT (G : Prg) (cl : Cl) (x : W) (st1 : Sto) : R W := match fldsOf st1 x with
    | some (C, _) => (match G.strm C with
      | some f => noErr ((cl f [x] st1).bind fun r st2 => (match r with
        | .str z => .ok (.str z) st2
        | _ => .stuck))
      | none => .stuck)
    | none => prim .str [x] st1
theorem call_strT (SO : StOk G cl X k) (hr : Rm (k + 2) X.A) : CallR X (.type "str") (fun xs H Q => ∃ ad st x w E, xs = [x] ∧ SimH X.K ad st H ∧ RV X.K ad H w x ∧ Good X.K (rV X.K) ad H (strT G cl w st) Q E) := fun pins s σ H xs us Q I rs h => by
  obtain ⟨ad, st, x, w, E, rfl, S, r, g⟩ := h
  unfold strT at g
  split at g
  · rename_i C fs hC
    split at g
    · rename_i f hf
      obtain ⟨e1, e2, F⟩ := SO.ok C f hf
      have hx : ∃ a, x = .ref a := by
        obtain ⟨a, _, _, e, _⟩ := fldsOf_rel S r hC
        exact ⟨a, e⟩
      obtain ⟨a, rfl⟩ := hx
      obtain ⟨dx, vs, k1⟩ := flds_ins S r hC
      obtain ⟨mA, J, _⟩ := ins_get I.hok k1
      obtain ⟨od, J, _⟩ := J.look
      obtain ⟨u, rfl, ru⟩ := vals1 rs
      cases ru
      have sb : SubG X (k + 2) X.A := ⟨hr, rfl⟩
      refine PySem.W.kso_call sb.in1.in1.room.units0 I.kIn J e1 e2 ?_
      refine wpAny_mono (sub_call (Q := fun v H' => ∃ z, v = .str z ∧ Q (.str z) H') F sb.in1.in1 I (vs := [.ref a]) (.cons rfl .nil) ⟨ad, st, [w], S, RVs.one r, ?_⟩) (fun u s' q => ?_) fun _ _ z => z
      · cases hc : cl f [w] st with
        | ok r0 st1 =>
          rw [hc] at g
          cases r0 <;> first | exact g.elim | skip
          intro ad' H' v x' S' r'
          exact ⟨_, r', g ad' H' _ x' S' rfl⟩
        | err e st1 => rw [hc] at g; exact g.elim
        | stuck => rw [hc] at g; exact g.elim
      · obtain ⟨v, H', I', rv, z, rfl, q⟩ := q
        obtain ⟨t, rfl⟩ := rv
        exact ⟨.str z, H', I', ⟨t, rfl⟩, q⟩
    · exact g.elim
  · exact or_str pins s σ H [x] us Q I rs ⟨ad, st, [w], E, S, RVs.one r, g⟩
theorem z_stro {p pos : Pos} (SO : StOk G cl X k) (hr : Rm (k + 2) X.A) (hg : Gl X "str") (hm : X.mg "str" = none) (ha : PE X a (rdE X.K WW (ev G cl ca))) (hs : noStar a = true) :
    PE X (.Call (.Name "str" p) [a] [] pos) (rdE X.K WW (ev G cl (.stro ca))) := by
  refine (pe_callTy (call_strT SO hr) hg hm (by decide +kernel) (pa_cons ha pa_nil (star_cons hs)) (by decide +kernel) (by decide +kernel) (star_cons hs) rfl).imp fun σ H Q h => ?_
  refine rdE_then (f := fun env x st1 => strT G cl x st1) h fun v H1 ad env st w S s r g => ?_
  exact ⟨ad, st, v, w, _, rfl, S, r, g⟩
end
end Zv

set_option maxRecDepth 100000
set_option maxHeartbeats 4000000
/-! EvSt: C.m(..), m a static method. -/
namespace Zv
open PySem PySem.Spec PyProof.Rows L2
section
variable {X : Cx} {WW : WX} {e : Expr} {G : Prg} {cl : Cl}
/-- what the table tells of a static method -/
structure StatOk (G : Prg) (K : PySem.W.Frag) (C m f : Str) : Prop where
  rd : PySem.W.readsIn K (He.ga K C) (.type "type") = true
  ga : PySem.W.specialIn K (.ref (He.ga K C)) "__getattribute__" = some (some (.builtin "type.__getattribute__"))
  rc : ∃ p rest, PySem.W.findCls K (.ref (He.ga K C)) (.type "type") m = some (.get (.builtin "staticmethod.__get__") (.ref p) .none (.ref (He.ga K C))) ∧ PySem.W.recIn K p "staticmethod" = some (.ref (adr G K f) :: rest)
  kp : PySem.W.keepIn K (.ref (adr G K f)) = true
theorem z_stat {C m f : Str} {es : List Expr} {cs : List Ex} {np apos pos : Pos} {k : Nat} {pl : Sem Bool} (S : StatOk G X.K C m f) (F : FnG X.prog X.w X.K X.mg X.base (L2.CX X.prog X.w) k (adr G X.K f) (G.par f) (spC X.K cl f)) (hr : Rm k X.A) (hg : Gl X C) (hm : X.mg C = some (.ref (He.ga X.K C))) (hdb : (C == ("__debug__" : Str)) = false) (tk : Takes X WW)
    (ha : PA X (e :: es) (rdA X.K WW (evs G cl cs))) (hs : (e :: es).all noStar = true)
    (ht : eval (.Call (.Attribute (.Name C np) m apos) (e :: es) [] pos) X.env = (do
      let ov ← eval (.Name C np) X.env
      standAt apos.atName
      let (f, first) ← holding [ov] (getMethod ov m pl)
      callWith pos f first (backTo pos (starEach (e :: es) X.env)) (backToKw pos (keywordEach [] X.env)))) : PE X (.Call (.Attribute (.Name C np) m apos) (e :: es) [] pos) (rdE X.K WW (ev G cl (.call f none cs))) := by
  refine ⟨fun pins s σ H Q I h => ?_⟩
  have h2 : rdA X.K WW (evs G cl cs) σ H (fun vs H1 => spC X.K cl f vs H1 Q (WE WW σ)) := rdA_then (f := fun env ws st1 => match permO ws none with
    | some us => cl f us st1
    | none => .stuck) h fun vs H1 ad env st ws S _ r g => ⟨ad, st, ws, S, r, g⟩
  have pn : PE X (.Name C np) (tC (.ref (He.ga X.K C))) := pe_glob hg hm rfl hdb
  refine PySem.W.methodCall_KW (pl := pl) (thn (pn.run pins s σ H (fun v H1 => v = .ref (He.ga X.K C) ∧ H1 = H) I ⟨rfl, rfl⟩) fun u s1 ⟨x, H1, I1, rx, ex, eh⟩ => ?_) ht
  subst ex eh
  obtain rfl : u = Value.ref (He.ga X.K C) := rx
  obtain ⟨p, rest, h3, h4⟩ := S.rc
  refine PySem.W.method_cls I1.kIn S.ga (PySem.W.cls_bind I1.kIn S.rd h3 (wpAny_call (PySem.W.sm_get (s := { s1 with toks := s1.toks + 1 }) I1.kIn h4 (PySem.W.handed_on rfl ?_))))
  have I2 := I1.tok (s1.toks + 1)
  simp only [List.all_cons, Bool.and_eq_true] at hs
  refine PySem.W.callWith_K (first := []) (h₀ := X.base) I.ok.mod.kin S.kp (thn (ha.run pos pins _ σ H1 _ I2 h2) fun us s2 ⟨vs, H2, I3, r, q2⟩ => ⟨I3.kIn, ?_⟩) (star_cons hs.1) (star_none hs.2)
  exact run_fnRS F hr (passAt tk σ) I3 r q2
/-! ### f(e, .., k = v, ..) -/
theorem bnd_assoc {α β γ : Type} {m : R α} {f : α → Sto → R β} {g : β → Sto → R γ} : (m.bind f).bind g = m.bind fun a st => (f a st).bind g := by cases m <;> rfl
theorem bnd_ext {α β : Type} {m : R α} {f g : α → Sto → R β} (h : ∀ a st, f a st = g a st) : m.bind f = m.bind g := by
  cases m <;> first | rfl | exact h _ _
theorem evs_app {α : Type} {env : En} : ∀ {cs ds : List Ex} {st : Sto} {f : List W → Sto → R α}, (evs G cl (cs ++ ds) env st).bind f = (evs G cl cs env st).bind fun ws st1 => if ws.length = cs.length then ((evs G cl ds env st1).bind fun zs st2 => f (ws ++ zs) st2) else .stuck
  | [], ds, st, f => by
    simp only [List.nil_append, evs, R.bind, List.length_nil, if_true]
  | c :: cs, ds, st, f => by
    simp only [List.cons_append, evs]
    rw [bnd_assoc, bnd_assoc]
    refine bnd_ext fun w s => ?_
    rw [bnd_assoc, bnd_assoc]
    have ih := evs_app (env := env) (cs := cs) (ds := ds) (st := s) (f := fun ws st2 => f (w :: ws) st2)
    refine Eq.trans ih (bnd_ext fun ws s1 => ?_)
    show _ = (if (w :: ws).length = (c :: cs).length then _ else _)
    by_cases hl : ws.length = cs.length
    · rw [if_pos hl, if_pos (by simp [hl])]
      rfl
    · rw [if_neg hl, if_neg (by simp [hl])]
theorem perm_rel {K : PySem.W.Frag} {ad : Ad} {H : Hp} {ws : List W} {vs : List V} (r : RVs K ad H ws vs) : ∀ {is : List Nat} {us : List W}, permW ws is = some us → ∃ zs, permL vs is = some zs ∧ RVs K ad H us zs
  | [], us, h => by cases h; exact ⟨[], rfl, rfl⟩
  | i :: is, us, h => by
    unfold permW at h
    split at h
    · rename_i w t h1 h2
      cases h
      obtain ⟨v, e1, q⟩ := r.get h1
      obtain ⟨zs, e2, qs⟩ := perm_rel r h2
      exact ⟨v :: zs, by unfold permL; rw [e1, e2], RVs.cons q qs⟩
    · cases h
theorem perm_vals {vs : List V} {us : List Value} (r : Vals vs us) : ∀ {is : List Nat} {zs : List V}, permL vs is = some zs → ∃ ts, permL us is = some ts ∧ Vals zs ts
  | [], zs, h => by cases h; exact ⟨[], rfl, .nil⟩
  | i :: is, zs, h => by
    unfold permL at h
    split at h
    · rename_i w t h1 h2
      cases h
      obtain ⟨u, e1, q⟩ := r.get h1
      obtain ⟨ts, e2, qs⟩ := perm_vals r h2
      exact ⟨u :: ts, by unfold permL; rw [e1, e2], .cons q qs⟩
    · cases h
theorem z_knil : PK X [] (rdA X.K WW (evs G cl [])) := ⟨fun pos pins s σ H Q I h => pk_nil.run pos pins s σ H Q I (by
  obtain ⟨ad, st, env, S, s, g⟩ := h
  exact g.ok_ S rfl)⟩
theorem z_kcons {ca : Ex} {kws : List Keyword} {cs : List Ex} {nm : Option Str} {kp : Pos} (ha : PE X e (rdE X.K WW (ev G cl ca))) (hb : PK X kws (rdA X.K WW (evs G cl cs))) : PK X (⟨nm, e, kp⟩ :: kws) (rdA X.K WW (evs G cl (ca :: cs))) :=
  ⟨fun pos pins s σ H Q I h => (pk_cons ha hb).run pos pins s σ H Q I (by
    obtain ⟨ad0, st0, env0, S0, s0, g0⟩ := rd_bind (rel := rV X.K) (m := ev G cl ca) (f := fun env w st1 => (evs G cl cs env st1).bind fun ws st2 => .ok (w :: ws) st2) (by
      obtain ⟨ad, st, env, S, s, g⟩ := h
      exact ⟨ad, st, env, S, s, g⟩)
    refine ⟨ad0, st0, env0, S0, s0, g0.mono fun x H1 q => ?_⟩
    obtain ⟨wx, ad, env, st, S, s, rx, g⟩ := q
    refine ⟨ad, st, env, S, s, (Good.step (rel := rVs X.K) g).mono fun ys H2 q2 => ?_⟩
    obtain ⟨wy, ad1, st1, _, x1, S1, ry, g1⟩ := q2
    exact g1.ok_ S1 ⟨x, ys, rfl, rx.ext S x1, ry⟩)⟩
theorem kw_names {env : Env} {pos : Pos} : ∀ {kws : List Keyword} {ks : List Str}, allSome (fun k : Keyword => k.arg) kws = some ks → (backToKw pos (keywordEach kws env)).all (·.1.isSome) = true ∧ (backToKw pos (keywordEach kws env)).filterMap (·.1) = ks ∧ (backToKw pos (keywordEach kws env)).any (·.1.isNone) = false
  | [], ks, h => by cases h; exact ⟨rfl, rfl, rfl⟩
  | k :: kws, ks, h => by
    simp only [allSome] at h
    split at h
    · cases h
    · rename_i n hn
      split at h
      · cases h
      · rename_i ns hns
        cases h
        obtain ⟨h1, h2, h3⟩ := kw_names (env := env) (pos := pos) hns
        obtain ⟨a, v, p⟩ := k
        have hn' : a = some n := hn
        subst hn'
        refine ⟨?_, ?_, ?_⟩
        · show (true && (backToKw pos (keywordEach kws env)).all (·.1.isSome)) = true
          rw [h1]; rfl
        · show n :: (backToKw pos (keywordEach kws env)).filterMap (·.1) = _
          rw [h2]
        · show (false || (backToKw pos (keywordEach kws env)).any (·.1.isNone)) = false
          rw [h3]; rfl
theorem z_callK {x : Str} {es : List Expr} {kws : List Keyword} {cs ds : List Ex} {ks : List Str} {p pos : Pos} {k : Nat} (F : FnG X.prog X.w X.K X.mg X.base (L2.CX X.prog X.w) k (adr G X.K x) (G.par x) (spC X.K cl x)) (hr : Rm k X.A) (hg : Gl X x) (hm : X.mg x = some (.ref (adr G X.K x))) (hk : PySem.W.keepIn X.K (.ref (adr G X.K x)) = true) (tk : Takes X WW)
    (hp : (G.par x).2 = false) (ok : kwOk (G.par x).1 es.length ks = true) (hn : allSome (fun k : Keyword => k.arg) kws = some ks) (ha : PA X es (rdA X.K WW (evs G cl cs))) (hb : PK X kws (rdA X.K WW (evs G cl ds))) (hs : es.all noStar = true) (hl : cs.length = es.length) (hl2 : ds.length = ks.length) (hdb : (x == ("__debug__" : Str)) = false) :
    PE X (.Call (.Name x p) es kws pos) (rdE X.K WW (ev G cl (.call x (some (permOf (G.par x).1 es.length ks)) (cs ++ ds)))) := by
  refine ⟨fun pins s σ H Q I h => ?_⟩
  have h2 : rdA X.K WW (evs G cl cs) σ H (fun vs H1 => vs.length = es.length ∧ rdA X.K WW (evs G cl ds) σ H1 fun zs H2 => zs.length = ks.length ∧ ∃ us, permL (vs ++ zs) (permOf (G.par x).1 es.length ks) = some us ∧ spC X.K cl x us H2 Q (WE WW σ)) := by
    refine rdA_then (Q := Q) (f := fun env ws st1 => if ws.length = cs.length then ((evs G cl ds env st1).bind fun zs st2 => if zs.length = ds.length then (match permO (ws ++ zs) (some (permOf (G.par x).1 es.length ks)) with
      | some us => cl x us st2
      | none => .stuck) else .stuck) else .stuck) ?_ fun vs H1 ad env st ws S s r g => ?_
    · obtain ⟨ad, st, env, S, s, g⟩ := h
      refine ⟨ad, st, env, S, s, ?_⟩
      have e2 : ∀ st1 (f : List W → Sto → R W), (evs G cl ds env st1).bind f = (evs G cl ds env st1).bind fun zs st2 => if zs.length = ds.length then f zs st2 else .stuck := fun st1 f => by
        have := evs_app (G := G) (cl := cl) (env := env) (cs := ds) (ds := []) (st := st1) (f := f)
        rw [List.append_nil] at this
        rw [this]
        simp only [evs, R.bind, List.append_nil]
      have e4 : ∀ (m : R (List W)) (f f' : List W → Sto → R W), (∀ a b, f a b = f' a b) → m.bind f = m.bind f' := fun m f f' hh => by
        cases m <;> first | rfl | exact hh _ _
      have e3 : ev G cl (.call x (some (permOf (G.par x).1 es.length ks)) (cs ++ ds)) env st = (evs G cl (cs ++ ds) env st).bind fun ws st1 => match permO ws (some (permOf (G.par x).1 es.length ks)) with
        | some us => cl x us st1
        | none => .stuck := by
        simp only [ev]
        all_goals (refine e4 _ _ _ fun ws st1 => ?_; cases permO ws (some (permOf (G.par x).1 es.length ks)) <;> rfl)
      rw [e3, evs_app] at g
      rw [e4 _ _ _ (fun ws st1 => ?_)] at g
      exact g
      by_cases hw : ws.length = cs.length
      · rw [if_pos hw, if_pos hw]
        exact e2 _ _
      · rw [if_neg hw, if_neg hw]
    · split at g
      rotate_left
      · exact g.elim
      rename_i hw
      refine ⟨by rw [← r.length, hw, hl], rdA_in S s g fun zs H2 ad1 st1 ws1 x1 S1 r1 g1 => ?_⟩
      split at g1
      rotate_left
      · exact g1.elim
      rename_i hz
      split at g1
      · rename_i us hus
        obtain ⟨ts, e1, r2⟩ := perm_rel ((r.ext S x1).append r1) (show permW (ws ++ ws1) _ = some us from hus)
        exact ⟨by rw [← r1.length, hz, hl2], ts, e1, ad1, st1, us, S1, r2, g1⟩
      · exact g1.elim
  obtain ⟨n1, n2, n3⟩ := kw_names (env := X.env) (pos := pos) hn
  have go : ∀ {us0 ws : List Value} {vs zs : List V} {H2 : Hp} {s2 : Shared}, L2.Inv X pins σ H2 s2 → Vals vs us0 → Vals zs ws → vs.length = es.length → zs.length = ks.length → (∃ us, permL (vs ++ zs) (permOf (G.par x).1 es.length ks) = some us ∧ spC X.K cl x us H2 Q (WE WW σ)) →
      wpAny (model X.prog X.w) X.A (call (.ref (adr G X.K x)) us0 (ks.zip ws)) (EP X pins σ Q) X.xe s2 := by
    intro us0 ws vs zs H2 s2 I2 r rz l1 l2 ⟨us, e1, q⟩
    obtain ⟨ts, e2, rt⟩ := perm_vals (r.append rz) e1
    have lu : us0.length = es.length := by rw [← r.length]; exact l1
    refine wpAny_call (codeAny_mono (F X.A X.stack s2 H2 ⟨us0, ks.zip ws⟩ ts us Q (WE WW σ) hr I2.env0 (.inr ⟨hp, ks, us0, ws, rfl, by rw [← rz.length]; exact l2, by rw [lu]; exact ok, by rw [lu]; exact e2⟩) rt q) fun r s' hq => ?_)
    cases r with
    | error e => exact passAt tk σ pins H2 s2 e s' I2 hq
    | ok fl =>
      cases fl with
      | ret u => exact I2.after hq
      | next => exact False.elim hq
      | brk => exact False.elim hq
      | cont => exact False.elim hq
  refine wpAny_Call_Name_kw (ld_glob I hg hm ?_ hdb)
  cases es with
  | nil =>
    obtain rfl : cs = [] := List.length_eq_zero_iff.mp hl
    obtain ⟨ad, st, env, S, ss, g⟩ := h2
    have h3 := g.ok_ S (show rVs X.K ad H [] [] from rfl)
    refine PySem.W.callWith_KW0 (first := []) (h₀ := X.base) I.ok.mod.kin hk n1 (thn (hb.run pos pins s σ H _ I h3.2) fun ws s2 ⟨zs, H2, I2, rz, lz, q2⟩ => ⟨I2.kIn, ?_⟩) (by rw [n3]; rfl)
    rw [n2]
    exact go (vs := []) (us0 := []) I2 .nil rz rfl lz q2
  | cons e es =>
    simp only [List.all_cons, Bool.and_eq_true] at hs
    refine PySem.W.callWith_KW (first := []) (h₀ := X.base) I.ok.mod.kin hk n1 (thn (ha.run pos pins s σ H _ I h2) fun us s1 ⟨vs, H1, I1, r, lv, q⟩ => ?_) ?_ (star_cons hs.1)
    · refine thn (hb.run pos pins s1 σ H1 _ I1 q) fun ws s2 ⟨zs, H2, I2, rz, lz, q2⟩ => ⟨I2.kIn, ?_⟩
      rw [n2]
      exact go I2 r rz lv lz q2
    · rw [n3, star_cons hs.1]
      show (false || (backTo pos (starEach es X.env)).any (·.1) || false) = false
      rw [star_none hs.2]
      rfl
end
end Zv

set_option maxRecDepth 100000
set_option maxHeartbeats 4000000
/-! Ev8: from Python's syntax to the small language; expressions. -/
namespace Zv
open PySem PySem.Spec PyProof.Rows L2
structure Tab where
  fns : List Str
  cons : List Str
  bis : List Str
  meths : List Str
  clss : List Str
  isis : List Str
  /-- (class, static method), its full name -/
  stats : List ((Str × Str) × Str) := []
  par : Str → List Str × Bool := fun _ => ([], true)
  m : Bool := false
  muts : List Str := []
def slot (N : List Str) (x : Str) : Option Nat := N.findIdx? (fun y => decide (y = x))
theorem slot_at {N : List Str} {x : Str} {i : Nat} (h : slot N x = some i) : N[i]? = some x := by
  unfold slot at h
  obtain ⟨h1, h2, _⟩ := List.findIdx?_eq_some_iff_getElem.mp h
  rw [List.getElem?_eq_getElem h1, of_decide_eq_true h2]
def okName (x : Str) : Bool := !(x == ("__debug__" : Str)) && (!(x == ("__classdict__" : Str)) && !decide (x = ("__name__" : Str)))
def cOp : Operator → Option Op
  | .Add => some .add
  | .Sub => some .sub
  | .Mult => some .mul
  | .FloorDiv => some .fdiv
  | .Mod => some .mod
  | .Pow => some .pow
  | _ => none
def cCmp : CmpOp → Option Op
  | .Lt => some .lt
  | .LtE => some .le
  | .Gt => some .gt
  | .GtE => some .ge
  | .In => some .in_
  | .NotIn => some .notin
  | _ => none
def cOrd : CmpOp → Option Op
  | .Lt => some .lt
  | .LtE => some .le
  | .Gt => some .gt
  | .GtE => some .ge
  | _ => none
def Tab.mm (T : Tab) : Tab := { T with m := true }
/-- built-in functions by name and number of arguments -/
def cBi (m : Bool) (f : Str) (n : Nat) : Option Op :=
  if n = 1 then
    if f = "len" then some .len else if f = "abs" then some .abs else if f = "int" then some .int else if f = "sum" then some .sum
    else if f = "tuple" then some .tuple else if f = "list" then some (.list m) else if f = "all" then some .all else if f = "any" then some .any else if f = "str" then some .str else if f = "repr" then some .repr else none
  else if n = 2 then
    if f = "max" then some .max2 else if f = "min" then some .min2 else if f = "divmod" then some .divmod else none
  else none
def cMt (m : Str) : Option Op :=
  if m = "append" then some .append else if m = "extend" then some .extend else if m = "split" then some .split else if m = "join" then some .join else if m = "index" then some .sindex else none
def cTg (N : List Str) (sc : Scope) : Nat → Expr → Option Tg
  | 0, _ => none
  | _ + 1, .Name x _ => (match sc.names.lookup x with
    | some .local => (slot N x).map .nm
    | some .cell => (slot N x).map .nm
    | _ => none)
  | n + 1, .Tuple es _ _ => if es.all noStar then (match allSome (cTg N sc n) es with
    | some ts => some (.tp ts)
    | none => none) else none
  | _ + 1, _ => none
def isTupE : Expr → Bool
  | .Tuple _ _ _ => true
  | _ => false
def glob (sc : Scope) (x : Str) : Bool := decide (sc.names.lookup x = some .globalImplicit) && okName x
/-- what is walked -/
def cIt (T : Tab) (f : Expr → Option Ex) (sc : Scope) (tg : Expr) : Expr → Option It
  | .Call (.Name g p) [a] [] pos => if glob sc g && T.bis.contains g && decide (g = "range") then (if noStar a then (f a).map .rng1 else none)
      else if glob sc g && T.bis.contains g && decide (g = "enumerate") then (if isTupE tg && noStar a then (f a).map .enum else none)
      else (f (.Call (.Name g p) [a] [] pos)).map .seq
  | .Call (.Name g p) [a, b] [] pos => if glob sc g && T.bis.contains g && decide (g = "range") then (if noStar a && noStar b then (match f a, f b with
      | some x, some y => some (.rng2 x y)
      | _, _ => none) else none)
      else if glob sc g && T.bis.contains g && decide (g = "zip") then (if isTupE tg && noStar a && noStar b then (match f a, f b with
      | some x, some y => some (.zip x y)
      | _, _ => none) else none)
      else (f (.Call (.Name g p) [a, b] [] pos)).map .seq
  | .Call (.Name g p) [a, b, c] [] pos => if glob sc g && T.bis.contains g && decide (g = "range") then (if noStar a && (noStar b && noStar c) then (match f a, f b, f c with
      | some x, some y, some z => some (.rng3 x y z)
      | _, _, _ => none) else none)
      else (f (.Call (.Name g p) [a, b, c] [] pos)).map .seq
  | .Set _ _ _ => none
  | e => (f e).map .seq
def ownOf (N : List Str) : List (Str × NameKind) → List (Str × Nat)
  | [] => []
  | (x, k) :: r => if decide (k = .local) || decide (k = .cell) then (match slot N x with
    | some i => (x, i) :: ownOf N r
    | none => ownOf N r) else ownOf N r
def subN (xs ys : List Nat) : Bool := xs.all fun i => ys.contains i
def cAr (f : Expr → Option Ex) : Expr → Option Ar
  | .Starred e _ => (f e).map .s
  | e => (f e).map .p
def isNoneE : Expr → Bool
  | .Constant .none _ _ => true
  | _ => false
/-- a test may stand there -/
def tstOk : Nat → Expr → Bool
  | 0, _ => false
  | _ + 1, .IfExp _ _ _ _ => false
  | n + 1, .UnaryOp .Not a _ => tstOk n a
  | n + 1, .BoolOp _ [a] _ => tstOk n a
  | n + 1, .BoolOp op (a :: b :: r) pos => tstOk n a && tstOk n (.BoolOp op (b :: r) pos)
  | _ + 1, _ => true
/-- a built-in class by its name -/
def tyS (c : Str) : Option String := if c = "int" then some "int" else if c = "bool" then some "bool" else if c = "tuple" then some "tuple" else if c = "str" then some "str" else if c = "list" then some "list" else none
/-- isinstance(a, c) -/
def cIsi (T : Tab) (F : Expr → Option Ex) (sc : Scope) : List Expr → Option Ex
  | [a, .Name c _] => if noStar a && (glob sc c && (T.isis.contains c && (!T.bis.contains c || (tyS c).isSome))) then (F a).map fun x => .isi x c else none
  | _ => none
def cStr (F : Expr → Option Ex) : List Expr → Option Ex
  | [a] => if noStar a then (F a).map .stro else none
  | _ => none
/-- sorted(set(a)) -/
def cSset (T : Tab) (F : Expr → Option Ex) (sc : Scope) : List Expr → Option Ex
  | [.Call (.Name g _) [a] [] _] => if decide (g = "set") && (glob sc g && (T.bis.contains g && noStar a)) then (F a).map fun x => .op .sset [x] else none
  | _ => none
/-- C.m where m is a static method of the class C -/
def statOf (T : Tab) (sc : Scope) (m : Str) : Expr → Option (Str × Str)
  | .Name C _ => if glob sc C then (T.stats.lookup (C, m)).map fun f => (C, f) else none
  | _ => none
def kwNames (kws : List Keyword) : Option (List Str) := allSome (fun k : Keyword => k.arg) kws
def cStep (T : Tab) (N : List Str) (F : Scope → Expr → Option Ex) (n : Nat) (sc : Scope) : Expr → Option Ex
  | .Name x _ => if okName x then (match sc.names.lookup x with
      | some .local => (slot N x).map .var
      | some .cell => (slot N x).map .var
      | some .free => (slot N x).map .var
      | some .globalImplicit => if T.cons.contains x then some (.glo x) else none
      | _ => none) else none
  | .Constant c _ _ => (match c with
      | .int i => some (.con (.int i))
      | .str s => some (.con (.str s))
      | .bool b => some (.con (.bl b))
      | .none => some (.con .non)
      | _ => none)
  | .BinOp a op b _ => (match cOp op, F sc a, F sc b with
      | some o, some x, some y => some (.op (if T.m && decide (o = .add) then .addm else o) [x, y])
      | _, _, _ => none)
  | .UnaryOp .USub a _ => (F sc a).map fun x => .op .neg [x]
  | .UnaryOp .Not a _ => (F sc a).map .not
  | .BoolOp _ [a] _ => F sc a
  | .BoolOp .And (a :: b :: r) pos => (match F sc a, F sc (.BoolOp .And (b :: r) pos) with
      | some x, some y => some (.and x y)
      | _, _ => none)
  | .BoolOp .Or (a :: b :: r) pos => (match F sc a, F sc (.BoolOp .Or (b :: r) pos) with
      | some x, some y => some (.or x y)
      | _, _ => none)
  | .IfExp c a b _ => if tstOk n c then (match F sc c, F sc a, F sc b with
      | some z, some x, some y => some (.ite z x y)
      | _, _, _ => none) else none
  | .Compare a [op] [b] _ => if isNoneE b && (decide (op = .Is) || decide (op = .IsNot)) then (F sc a).map fun x => .op (if op = .Is then .isN else .isnotN) [x]
      else if behindInMarks op b then none else if decide (op = .Eq) || decide (op = .NotEq) then (match F sc a, F sc b with
      | some x, some y => some (.eqo (decide (op = .NotEq)) x y)
      | _, _ => none) else (match cCmp op, F sc a, F sc b with
      | some o, some x, some y => some (.op o [x, y])
      | _, _, _ => none)
  | .Compare a [op, op2] [b, c] _ => (match cOrd op, cOrd op2, F sc a, F sc b, F sc c with
      | some o, some p, some x, some y, some z => some (.chain o p x y z)
      | _, _, _, _, _ => none)
  | .Tuple es _ _ => if es.all noStar then (match allSome (F sc) es with
      | some cs => some (.op .tup cs)
      | none => none) else none
  | .List es _ => if es.all noStar then (match allSome (F sc) es with
      | some cs => some (.op (.lst T.m) cs)
      | none => none) else (match allSome (cAr (F sc)) es with
      | some cs => some (.lsts T.m cs)
      | none => none)
  | .Subscript a (.Slice none none none _) _ => (F sc a).map fun x => .op (.slc false false) [x]
  | .Subscript a (.Slice (some b) none none _) _ => (match F sc a, F sc b with
      | some x, some y => some (.op (.slc true false) [x, y])
      | _, _ => none)
  | .Subscript a (.Slice none (some b) none _) _ => (match F sc a, F sc b with
      | some x, some y => some (.op (.slc false true) [x, y])
      | _, _ => none)
  | .Subscript a (.Slice (some b) (some c) none _) _ => (match F sc a, F sc b, F sc c with
      | some x, some y, some z => some (.cut x y z)
      | _, _, _ => none)
  | .Subscript a (.Slice none none (some (.UnaryOp .USub (.Constant (.int 1) _ _) _)) _) _ => (F sc a).map fun x => .op .rev [x]
  | .Subscript _ (.Slice _ _ (some _) _) _ => none
  | .Subscript a b _ => (match F sc a, F sc b with
      | some x, some y => some (.op .ix [x, y])
      | _, _ => none)
  | .Attribute o f _ => if noSuper o then (F sc o).map fun x => .fld x f else none
  | .Call (.Name f _) es [] _ => if glob sc f then (if T.bis.contains f then (if f = "isinstance" then cIsi T (F sc) sc es else if f = "str" then cStr (F sc) es else if f = "sorted" then cSset T (F sc) sc es else if es.all noStar then (match cBi T.m f es.length, allSome (F sc) es with
        | some o, some cs => some (.op o cs)
        | _, _ => none) else none)
      else if T.fns.contains f then (if es.all noStar then (allSome (F sc) es).map fun cs => .call f none cs else none)
      else if T.clss.contains f then (match es with
        | e :: r => if noStar e && (r.all noStar || r.any fun x => !noStar x) then (allSome (cAr (F sc)) (e :: r)).map fun cs => .mk f cs else none
        | [] => none)
      else none) else none
  | .Call (.Name f _) es (kw :: kws) _ => if glob sc f && (T.fns.contains f && (!T.bis.contains f && (es.all noStar && !(T.par f).2))) then (match kwNames (kw :: kws), allSome (F sc) es, allSome (F sc) ((kw :: kws).map (·.value)) with
        | some ks, some cs, some ds => if kwOk (T.par f).1 es.length ks then some (.call f (some (permOf (T.par f).1 es.length ks)) (cs ++ ds)) else none
        | _, _, _ => none) else none
  | .Call (.Attribute o m ap) es [] cp => if (statOf T sc m o).isSome then (match statOf T sc m o, es with
        | some (C, f), e :: r => if (e :: r).all noStar && ((ap.endLine == cp.line) && decide ((e :: r).length < 25)) then (allSome (F sc) (e :: r)).map fun cs => .call f none cs else none
        | _, _ => none) else if noSuper o then (match cMt m, es with
        | some p, [a] => if noStar a && (ap.endLine == cp.line) then (match F sc o, F sc a with
          | some x, some y => some (.bm p x [y])
          | _, _ => none) else none
        | some _, _ => none
        | none, es => if T.meths.contains m && (es.all noStar && ((ap.endLine == cp.line) && decide (es.length < 25))) then (match F sc o, allSome (F sc) es with
          | some x, some cs => some (.meth x m none cs)
          | _, _ => none) else none) else none
  | .FormattedValue a cv none _ => if cv = -1 then (F sc a).map fun x => .op .fmt [x] else none
  | .JoinedStr [v] _ => F sc v
  | .JoinedStr (v1 :: v2 :: r) _ => (allSome (F sc) (v1 :: v2 :: r)).map .fstr
  | .ListComp elt [⟨tg, iter, ifs, 0⟩] scope _ => (match cIt T (F sc) sc tg iter, cTg N scope n tg, allSome (F scope) ifs, F scope elt with
      | some it, some t, some cs, some ce => if blkC N sc scope (ownOf N scope.names) && (subN t.slots ((ownOf N scope.names).map (·.2)) && (decide (cs.length ≤ 1) && ifs.all (tstOk n))) then some (.lc T.m t ((ownOf N scope.names).map (·.2)) it cs ce) else none
      | _, _, _, _ => none)
  | _ => none
def cE (T : Tab) (N : List Str) : Nat → Scope → Expr → Option Ex
  | 0, _, _ => none
  | n + 1, sc, e => some ((cStep T N (cE T N n) n sc e).getD .bad)
/-! ### statements -/
def isBad : Ex → Bool
  | .bad => true
  | _ => false
/-- name = comprehension, stored within its frame -/
def swp (sc : Scope) (x : Str) (px : Pos) : Expr → Bool
  | .ListComp _ _ scope p => decide (sc.names.lookup x = some .local) && ((px.line == p.line) && !(scope.names.any fun (n, k) => n == x && (k == .local || k == .cell)))
  | _ => false
def isComp : Expr → Bool
  | .ListComp _ _ _ _ => true
  | .SetComp _ _ _ _ => true
  | .DictComp _ _ _ _ _ => true
  | _ => false
def isOther : Expr → Bool
  | .SetComp _ _ _ _ => true
  | .DictComp _ _ _ _ _ => true
  | _ => false
def isTuple : Expr → Bool
  | .Tuple _ _ _ => true
  | _ => false
def isSlice : Expr → Bool
  | .Slice _ _ _ _ => true
  | _ => false
/-- a, b = c, d: are the stores exchanged? names that are plain locals on one line -/
def locs (sc : Scope) (ts : List Expr) : List Str := ts.filterMap fun
    | .Name id pos => if sc.names.lookup id == some .local && pos.line == (ts.head?.map (·.pos.line)).getD 0 then some id else none
    | _ => none
def allNames (sc : Scope) (ts : List Expr) : Bool := ts.all fun
    | .Name id _ => (sc.names.lookup id).isSome && !decide (sc.names.lookup id = some .free)
    | _ => true
def swapsNone (sc : Scope) (ts vs : List Expr) : Bool :=
  allNames sc ts && (!(ts.length == 2 || ts.length == 3) || vs.length != ts.length || ((locs sc ts).length != ts.length || (locs sc ts).eraseDups.length != (locs sc ts).length) || vs.all (foldedForSure 8))
/-- o[i], x = e -/
def cUnpS (N : List Str) (F : Expr → Option Ex) (sc : Scope) (e : Expr) : List Expr → Option Sm
  | [.Subscript o i _, .Name x _] => if isSlice i then none else (match F o, F i, F e, slot N x, sc.names.lookup x with
    | some co, some ci, some c, some j, some .local => some (.unpS co ci j c)
    | _, _, _, _, _ => none)
  | _ => none
def anyMut (T : Tab) (ts : List Expr) : Bool := ts.any fun
  | .Name x _ => T.muts.contains x
  | _ => false
def cStm (T : Tab) (N : List Str) (F Fm : Scope → Expr → Option Ex) (B : List Stmt → List Sm) (n : Nat) (sc : Scope) : Stmt → Option Sm
  | .Assign [.Name x px] e _ => if isOther e then none else (match sc.names.lookup x, slot N x, (if T.muts.contains x then Fm sc e else F sc e) with
      | some .local, some i, some c => some (.set i c)
      | some .cell, some i, some c => some (.set i c)
      | _, _, _ => none)
  | .Assign [.Tuple ts k p] (.Tuple vs k2 p2) _ => if ts.all noStar && swapsNone sc ts vs then (match cTg N sc n (.Tuple ts k p), (if anyMut T ts then Fm sc (.Tuple vs k2 p2) else F sc (.Tuple vs k2 p2)) with
      | some t, some c => some (.unp t c)
      | _, _ => none) else (match ts, vs with
      | [.Name x px, .Name y py], [a, b] => (match slot N x, slot N y, (if T.muts.contains x then Fm sc a else F sc a), (if T.muts.contains y then Fm sc b else F sc b) with
        | some i, some j, some ca, some cb => if decide (sc.names.lookup x = some .local) && (decide (sc.names.lookup y = some .local) && ((py.line == px.line) && (!decide (x = y) && (!([a, b].all (foldedForSure 8)) && (!([a, b].all (constantsAlone 8)) && (noStar a && noStar b)))))) then some (.unp (.tp [.nm i, .nm j]) (.op .tup [ca, cb])) else none
        | _, _, _, _ => none)
      | _, _ => none)
  | .Assign [.Tuple ts k p] e _ => if ts.all noStar then (match cTg N sc n (.Tuple ts k p), F sc e with
      | some t, some c => some (.unp t c)
      | _, _ => cUnpS N (F sc) sc e ts) else none
  | .Assign [.Attribute o f _] e _ => if isComp e then none else (match F sc o, F sc e with
      | some co, some c => some (.fld co f c)
      | _, _ => none)
  | .Assign [.Subscript o i _] e _ => if isSlice i || isComp e then none else (match F sc o, F sc i, F sc e with
      | some co, some ci, some c => some (.sub co ci c)
      | _, _, _ => none)
  | .AugAssign (.Name x _) op e _ => (match sc.names.lookup x, slot N x, F sc e with
      | some .local, some i, some c => (match op with
        | .Add => some (.aug i false c)
        | .Sub => some (.aug i true c)
        | _ => none)
      | some .cell, some i, some c => (match op with
        | .Add => some (.aug i false c)
        | .Sub => some (.aug i true c)
        | _ => none)
      | _, _, _ => none)
  | .Expr e _ => if isComp e then none else (F sc e).map .exp
  | .Return (some e) _ => (F sc e).map .ret
  | .Return none _ => some .retn
  | .Pass _ => some .pass
  | .Break _ => some .brk
  | .Continue _ => some .cont
  | .If c a b _ => if tstOk n c then (F sc c).map fun x => .ife x (B a) (B b) else none
  | .While c b [] _ => if tstOk n c then (F sc c).map fun x => .whl x (B b) else none
  | .For tg iter b [] _ => (match cIt T (F sc) sc tg iter, cTg N sc n tg with
      | some it, some t => some (.forr t it (B b))
      | _, _ => none)
  | _ => none
def cS (T : Tab) (N : List Str) : Nat → Scope → List Stmt → List Sm
  | 0, _, _ => [.never]
  | _ + 1, _, [] => []
  | n + 1, sc, s :: ss => (cStm T N (cE T N n) (cE T.mm N n) (cS T N n sc) n sc s).getD .never :: cS T N n sc ss
end Zv

set_option maxRecDepth 100000
set_option maxHeartbeats 4000000
/-! Ev9: the small language's runs are Python's: expressions. -/
namespace Zv
open PySem PySem.Spec PyProof.Rows L2
def clsU (K : PySem.W.Frag) (T : Tab) (c : Str) : Value := if T.bis.contains c = true then (match tyS c with
  | some n => .type n
  | none => .none) else .ref (He.ga K c)
structure Facts (T : Tab) (G : Prg) (cl : Cl) (P : Program) (w : World) (K : PySem.W.Frag) (mg : Str → Option Value) (base : Heap) (k : Nat) : Prop where
  con : ∀ x, T.cons.contains x = true → ∃ wv v u, G.con x = some wv ∧ mg x = some u ∧ RelV v u ∧ ∀ ad H, RV K ad H wv v
  bis : ∀ x, T.bis.contains x = true → mg x = none
  fn : ∀ x, T.fns.contains x = true → mg x = some (.ref (adr G K x)) ∧ PySem.W.keepIn K (.ref (adr G K x)) = true ∧ FnG P w K mg base (L2.CX P w) k (adr G K x) (G.par x) (spC K cl x)
  meth : ∀ m, T.meths.contains m = true → ∀ C f, G.meth C m = some f → Cls K (He.ga K C) ∧ Meth K (He.ga K C) m (adr G K f) ∧ FnG P w K mg base (L2.CX P w) k (adr G K f) (G.par f) (spC K cl f)
  fld : ∀ C f, G.fldOk C f = true → Cls K (He.ga K C) ∧ NoAttr K (He.ga K C) f
  made : ∀ C, T.clss.contains C = true → ∃ f, G.init C = some f ∧ Mk K (He.ga K C) (adr G K f) ∧ mg C = some (.ref (He.ga K C)) ∧ FnG P w K mg base (L2.CX P w) k (adr G K f) (G.par f) (spC K cl f)
  isi : ∀ c, T.isis.contains c = true → T.bis.contains c = false → mg c = some (.ref (He.ga K c))
  isit : ∀ c, T.isis.contains c = true → ∀ t b, G.isi c t = some b → PySem.W.kitOne K (tyVal K t) (clsU K T c) = some b ∧ ∀ C, t = .inr C → InsT K C
  eqf : ∀ C f, G.eqm C = some f → PySem.W.findIn K (.ref (He.ga K C)) "__eq__" = some (some (.ref (adr G K f))) ∧ PySem.W.isFn K (.ref (adr G K f)) = true ∧ FnG P w K mg base (L2.CX P w) k (adr G K f) (G.par f) (spC K cl f)
  strf : ∀ C f, G.strm C = some f → PySem.W.findIn K (.ref (He.ga K C)) "__str__" = some (some (.ref (adr G K f))) ∧ PySem.W.isFn K (.ref (adr G K f)) = true ∧ FnG P w K mg base (L2.CX P w) k (adr G K f) (G.par f) (spC K cl f)
  stat : ∀ C m f, T.stats.lookup (C, m) = some f → mg C = some (.ref (He.ga K C)) ∧ StatOk G K C m f ∧ FnG P w K mg base (L2.CX P w) k (adr G K f) (G.par f) (spC K cl f)
  par : T.par = G.par
/-- names of the scope sc are so in the scope that runs -/
def ScOk (sc run : Scope) : Prop := ∀ x kd, sc.names.lookup x = some kd → (kd = .free → run.names.lookup x = some .free ∨ run.names.lookup x = some .cell) ∧ (kd ≠ .free → run.names.lookup x = some kd)
structure XOk (T : Tab) (G : Prg) (cl : Cl) (N : List Str) (sc : Scope) (X : Cx) (k : Nat) : Prop where
  eN : X.N = N
  nd : N.Nodup
  calm : X.calm = true
  room : Rm (k + 7) X.A
  scp : ScOk sc X.env.scope
  kind : X.env.scope.kind = .function
  cell : ∀ x, sc.names.lookup x = some .cell → X.fn x = true
  own : PassesOwn (model X.prog X.w) X.A X.env X.xe
  facts : Facts T G cl X.prog X.w X.K X.mg X.base k
/-- the same tables, other marks -/
def Tab.with (T : Tab) (m : Bool) (muts : List Str) : Tab := { T with m := m, muts := muts }
theorem Facts.with {T : Tab} {G : Prg} {cl : Cl} {P : Program} {w : World} {K : PySem.W.Frag} {mg : Str → Option Value} {base : Heap} {k : Nat} {a : Bool} {b : List Str} (h : Facts T G cl P w K mg base k) : Facts (T.with a b) G cl P w K mg base k :=
  ⟨h.con, h.bis, h.fn, h.meth, h.fld, h.made, h.isi, h.isit, h.eqf, h.strf, h.stat, h.par⟩
theorem Facts.unwith {T : Tab} {G : Prg} {cl : Cl} {P : Program} {w : World} {K : PySem.W.Frag} {mg : Str → Option Value} {base : Heap} {k : Nat} {a : Bool} {b : List Str} (h : Facts (T.with a b) G cl P w K mg base k) : Facts T G cl P w K mg base k :=
  ⟨h.con, h.bis, h.fn, h.meth, h.fld, h.made, h.isi, h.isit, h.eqf, h.strf, h.stat, h.par⟩
theorem XOk.unwith {T : Tab} {G : Prg} {cl : Cl} {N : List Str} {sc : Scope} {X : Cx} {k : Nat} {a : Bool} {b : List Str} (h : XOk (T.with a b) G cl N sc X k) : XOk T G cl N sc X k :=
  { eN := h.eN, nd := h.nd, calm := h.calm, room := h.room, scp := h.scp, kind := h.kind, cell := h.cell, own := h.own, facts := h.facts.unwith }
theorem XOk.mm {T : Tab} {G : Prg} {cl : Cl} {N : List Str} {sc : Scope} {X : Cx} {k : Nat} (h : XOk T G cl N sc X k) : XOk T.mm G cl N sc X k :=
  { eN := h.eN, nd := h.nd, calm := h.calm, room := h.room, scp := h.scp, kind := h.kind, cell := h.cell, own := h.own, facts := h.facts.with (a := true) (b := T.muts) }
theorem XOk.um {T : Tab} {G : Prg} {cl : Cl} {N : List Str} {sc : Scope} {X : Cx} {k : Nat} (h : XOk T.mm G cl N sc X k) : XOk T G cl N sc X k :=
  { eN := h.eN, nd := h.nd, calm := h.calm, room := h.room, scp := h.scp, kind := h.kind, cell := h.cell, own := h.own, facts := h.facts.unwith (a := true) (b := T.muts) }
section
variable {T : Tab} {G : Prg} {cl : Cl} {N : List Str} {sc : Scope} {X : Cx} {k : Nat}
theorem XOk.vis (h : XOk T G cl N sc X k) {x : Str} {kd : NameKind} (e : sc.names.lookup x = some kd) (hk : kd = .local ∨ kd = .cell ∨ kd = .free) : Vis X.env.scope x := by
  obtain ⟨h1, h2⟩ := h.scp x kd e
  rcases hk with rfl | rfl | rfl
  · exact .inl (h2 (by decide))
  · exact .inr (.inl (h2 (by decide)))
  · rcases h1 rfl with h | h
    · exact .inr (.inr h)
    · exact .inr (.inl h)
theorem XOk.gl (h : XOk T G cl N sc X k) {x : Str} (e : glob sc x = true) : Gl X x ∧ (x == ("__debug__" : Str)) = false ∧ x ≠ "__name__" := by
  simp only [glob, okName, Bool.and_eq_true, decide_eq_true_eq, Bool.not_eq_true'] at e
  refine ⟨(h.scp x _ e.1).2 (by decide), e.2.1, ?_⟩
  have := e.2.2.2
  simpa using this
theorem XOk.loc (h : XOk T G cl N sc X k) {x : Str} {kd : NameKind} (e : sc.names.lookup x = some kd) (hk : kd = .local ∨ kd = .cell) : Loc X.env.scope x ∧ (X.fn x = true ∨ X.env.scope.names.lookup x = some .local) := by
  obtain ⟨h1, h2⟩ := h.scp x kd e
  rcases hk with rfl | rfl
  · exact ⟨.inl (h2 (by decide)), .inr (h2 (by decide))⟩
  · exact ⟨.inr (h2 (by decide)), .inl (h.cell x e)⟩
theorem XOk.u64 (h : XOk T G cl N sc X k) : X.A.units + 65 < cLine := by
  have := h.room.un
  omega
/-! ### targets -/
theorem assign_each {env : Env} : ∀ {es : List Expr}, es.all noStar = true → (assignEach es env).length = es.length ∧ (assignEach es env).findIdx? (·.1) = none ∧ ∀ e r, es = e :: r → (assignEach (e :: r) env).map (·.2) = assign e env :: (assignEach r env).map (·.2)
  | [], _ => ⟨rfl, rfl, fun _ _ z => by cases z⟩
  | e :: es, h => by
    simp only [List.all_cons, Bool.and_eq_true] at h
    obtain ⟨h1, h2, _⟩ := assign_each (env := env) h.2
    have he : assignEach (e :: es) env = (false, assign e env) :: assignEach es env := by
      cases e <;> first | rfl | (simp [noStar] at h)
    refine ⟨by rw [he]; simp [h1], by rw [he, List.findIdx?_cons]; simp [h2], fun a r z => ?_⟩
    cases z
    rw [he]
    rfl
theorem s_tg : ∀ (n : Nat) (e : Expr) (t : Tg), cTg N sc n e = some t → ∀ {X : Cx} {k : Nat}, XOk T G cl N sc X k → PG X e (rdG X.K t)
  | 0, _, _, h, _, _, _ => by cases h
  | n + 1, e, t, h, X, k, O => by
    cases e with
    | Name x pos =>
      simp only [cTg] at h
      split at h
      · rename_i e1
        obtain ⟨i, hi, rfl⟩ := Option.map_eq_some_iff.mp h
        obtain ⟨l1, l2⟩ := O.loc e1 (.inl rfl)
        exact z_nm (by rw [O.eN]; exact O.nd) (by rw [O.eN]; exact slot_at hi) l1 l2
      · rename_i e1
        obtain ⟨i, hi, rfl⟩ := Option.map_eq_some_iff.mp h
        obtain ⟨l1, l2⟩ := O.loc e1 (.inr rfl)
        exact z_nm (by rw [O.eN]; exact O.nd) (by rw [O.eN]; exact slot_at hi) l1 l2
      · cases h
    | Tuple es kk pos =>
      simp only [cTg] at h
      split at h
      · rename_i hns
        split at h
        · rename_i ts hts
          cases h
          have key : ∀ (es : List Expr) (ts : List Tg), es.all noStar = true → allSome (cTg N sc n) es = some ts → PGs X es (rdGs X.K ts) := by
            intro es
            induction es with
            | nil => intro ts _ h; cases h; exact z_gnil
            | cons e es ih =>
              intro ts hns h
              simp only [allSome] at h
              split at h
              · cases h
              · rename_i t0 ht0
                split at h
                · cases h
                · rename_i ts0 hts0
                  cases h
                  have hns2 : es.all noStar = true := by
                    simp only [List.all_cons, Bool.and_eq_true] at hns
                    exact hns.2
                  have p1 := s_tg n e t0 ht0 O
                  have p2 := ih ts0 hns2 hts0
                  exact z_gcons p1 p2 (pgs_cons p1 p2 ((assign_each hns).2.2 e es rfl))
          obtain ⟨l1, l2, _⟩ := assign_each (env := X.env) hns
          exact z_tp (t := fun _ _ _ _ => True) (fun h => pg_tup O.calm h l1 l2) (allSome_len hts) (key es ts hns hts)
        · cases h
      · cases h
    | _ => simp [cTg] at h
/-! ### comprehension blocks -/
def rl (env : Env) : Str × NameKind → Str × NameKind := fun (n, k) => if (k == NameKind.free && env.scope.kind == .function && env.kindOf n == some .cell) then (n, NameKind.cell) else (n, k)
theorem rl_fst (env : Env) (p : Str × NameKind) : (rl env p).1 = p.1 := by
  unfold rl
  dsimp only
  split <;> rfl
theorem rl_snd (env : Env) (p : Str × NameKind) : (rl env p).2 = p.2 ∨ (p.2 = .free ∧ (rl env p).2 = .cell) := by
  unfold rl
  dsimp only
  split
  · rename_i hc
    simp only [Bool.and_eq_true, beq_iff_eq] at hc
    exact .inr ⟨hc.1.1, rfl⟩
  · exact .inl rfl
theorem look_rl {env : Env} : ∀ {names : List (Str × NameKind)} {x : Str} {kd : NameKind}, names.lookup x = some kd → ∃ kd', (names.map (rl env)).lookup x = some kd' ∧ (kd' = kd ∨ (kd = .free ∧ kd' = .cell))
  | [], _, _, h => by cases h
  | (n, k') :: r, x, kd, h => by
    rw [List.lookup_cons] at h
    rw [List.map_cons, show rl env (n, k') = (n, (rl env (n, k')).2) from Prod.ext (rl_fst env (n, k')) rfl, List.lookup_cons]
    cases hb : x == n with
    | true =>
      rw [hb] at h
      cases h
      exact ⟨_, rfl, rl_snd env (n, k')⟩
    | false =>
      rw [hb] at h
      exact look_rl h
theorem look_rel {scope : Scope} {env : Env} {cls : List (Str × Addr)} {C : Addr} {x : Str} {kd : NameKind} (h : scope.names.lookup x = some kd) :
    (kd = .free → (compEnvC scope cls C env).scope.names.lookup x = some .free ∨ (compEnvC scope cls C env).scope.names.lookup x = some .cell) ∧ (kd ≠ .free → (compEnvC scope cls C env).scope.names.lookup x = some kd) := by
  obtain ⟨kd', h1, h2⟩ := look_rl (env := env) h
  have e : (compEnvC scope cls C env).scope.names = scope.names.map (rl env) := rfl
  rw [e, h1]
  refine ⟨fun hk => ?_, fun hk => ?_⟩
  · rcases h2 with rfl | ⟨_, rfl⟩
    · exact .inl (by rw [hk])
    · exact .inr rfl
  · rcases h2 with rfl | ⟨q, _⟩
    · rfl
    · exact absurd q hk
theorem XOk.blk {scope : Scope} {own : List (Str × Nat)} (h : XOk T G cl N sc X k) (ok : BlkOk N sc scope own) (s : Shared) (H : Hp) (C : Addr) (cls : List (Str × Addr)) (fp : List Addr) : XOk T G cl N scope (X.blk s H scope (compEnvC scope cls C X.env) fp) k where
  eN := h.eN
  nd := h.nd
  calm := h.calm
  room := h.room
  scp := fun x kd e => look_rel e
  kind := ok.kind
  cell := fun x e => by show (scope.names.lookup x == some .cell) = true; rw [e]; rfl
  own := PassesOwn.never
  facts := h.facts
theorem XOk.blkOk {scope : Scope} {own : List (Str × Nat)} (h : XOk T G cl N sc X k) (ok : BlkOk N sc scope own) : BlkOk X.N X.env.scope scope own := by
  rw [h.eN]
  refine ⟨ok.kind, ok.uniq, ok.ix, fun y hy e => ?_, ok.own⟩
  rcases ok.free y hy e with q | q
  · exact .inl ((h.scp _ _ q).2 (by decide))
  · rcases (h.scp _ _ q).1 rfl with z | z
    · exact .inr z
    · exact .inl z
/-! ### built-in functions, methods -/
theorem isi_ok (O : XOk T G cl N sc X k) {F : Expr → Option Ex} {es : List Expr} {c : Ex} {p pos : Pos} {WW : WX} (h : cIsi T F sc es = some c) (hb : T.bis.contains "isinstance" = true) (hg : glob sc "isinstance" = true) (ih : ∀ a ca, F a = some ca → PE X a (rdE X.K WW (ev G cl ca))) : PE X (.Call (.Name "isinstance" p) es [] pos) (rdE X.K WW (ev G cl c)) := by
  obtain ⟨g1, g2, g3⟩ := O.gl hg
  unfold cIsi at h
  split at h
  · rename_i a cn p2
    split at h
    · rename_i hc
      simp only [Bool.and_eq_true] at hc
      obtain ⟨hs, hgc, hi, hty⟩ := hc
      obtain ⟨x, hx, rfl⟩ := Option.map_eq_some_iff.mp h
      obtain ⟨c1, c2, c3⟩ := O.gl hgc
      have it := O.facts.isit cn hi
      cases hbc : T.bis.contains cn with
      | false =>
        have hm := O.facts.isi cn hi hbc
        have hcu : clsU X.K T cn = .ref (He.ga X.K cn) := by unfold clsU; rw [hbc]; rfl
        rw [hcu] at it
        exact z_isi (cv := .ref (He.ga X.K cn)) (cu := .ref (He.ga X.K cn)) rfl (pe_glob c1 hm rfl c2) (.own _) it g1 (O.facts.bis _ hb) (ih a x hx) hs
      | true =>
        have hm := O.facts.bis cn hbc
        rw [hbc] at hty
        have key : ∀ n : String, tyS cn = some n → bootBuiltins cn = some (.type n) := fun n hn => by
          unfold tyS at hn
          split at hn
          · rename_i q; cases hn; subst q; decide +kernel
          · split at hn
            · rename_i q; cases hn; subst q; decide +kernel
            · split at hn
              · rename_i q; cases hn; subst q; decide +kernel
              · split at hn
                · rename_i q; cases hn; subst q; decide +kernel
                · split at hn
                  · rename_i q; cases hn; subst q; decide +kernel
                  · cases hn
        cases ht : tyS cn with
        | none => rw [ht] at hty; cases hty
        | some n =>
          have hcu : clsU X.K T cn = .type n := by unfold clsU; rw [hbc, ht]; rfl
          rw [hcu] at it
          exact z_isi (cv := .ty n) (cu := .type n) rfl (pe_bltn c1 hm (key n ht) rfl c3 c2) (.ty n) it g1 (O.facts.bis _ hb) (ih a x hx) hs
    · cases h
  · cases h
theorem bi_ok {m : Bool} (O : XOk T G cl N sc X k) {f : Str} {e : Expr} {es : List Expr} {o : Op} {t : TA} {p pos : Pos} (h : cBi m f (e :: es).length = some o) (hb : T.bis.contains f = true) (hg : glob sc f = true) (ha : PA X (e :: es) t) (hs : (e :: es).all noStar = true) : PE X (.Call (.Name f p) (e :: es) [] pos) (tCB (rPn X.K o) t) := by
  obtain ⟨g1, g2, g3⟩ := O.gl hg
  have hm := O.facts.bis f hb
  simp only [List.all_cons, Bool.and_eq_true] at hs
  have s1 := star_cons (es := es) (env := X.env) hs.1
  have s2 := star_none (env := X.env) (pos := pos) hs.2
  unfold cBi at h
  split at h
  · split at h
    · rename_i _ q; cases h; subst q; exact pe_callB or_len g1 hm (by decide +kernel) ha g3 g2 s1 s2
    · split at h
      · rename_i _ _ q; cases h; subst q; exact pe_callB or_abs g1 hm (by decide +kernel) ha g3 g2 s1 s2
      · split at h
        · rename_i _ _ _ q; cases h; subst q; exact pe_callTy or_int g1 hm (by decide +kernel) ha g3 g2 s1 s2
        · split at h
          · rename_i _ _ _ _ q; cases h; subst q; exact pe_callB (or_sum O.calm) g1 hm (by decide +kernel) ha g3 g2 s1 s2
          · split at h
            · rename_i _ _ _ _ _ q; cases h; subst q; exact pe_callTy or_tuple g1 hm (by decide +kernel) ha g3 g2 s1 s2
            · split at h
              · rename_i _ _ _ _ _ _ q; cases h; subst q; exact pe_callTy or_list g1 hm (by decide +kernel) ha g3 g2 s1 s2
              · split at h
                · rename_i _ _ _ _ _ _ _ q; cases h; subst q; exact pe_callB (or_all O.calm) g1 hm (by decide +kernel) ha g3 g2 s1 s2
                · split at h
                  · rename_i _ _ _ _ _ _ _ _ q; cases h; subst q; exact pe_callB (or_any O.calm) g1 hm (by decide +kernel) ha g3 g2 s1 s2
                  · split at h
                    · rename_i _ _ _ _ _ _ _ _ _ q; cases h; subst q; exact pe_callTy or_str g1 hm (by decide +kernel) ha g3 g2 s1 s2
                    · split at h
                      · rename_i _ _ _ _ _ _ _ _ _ _ q; cases h; subst q; exact pe_callB (or_repr (O.room.mono (Nat.le_add_right k 7))) g1 hm (by decide +kernel) ha g3 g2 s1 s2
                      · cases h
  · split at h
    · split at h
      · rename_i _ _ q; cases h; subst q; exact pe_callB (or_max2 O.calm) g1 hm (by decide +kernel) ha g3 g2 s1 s2
      · split at h
        · rename_i _ _ _ q; cases h; subst q; exact pe_callB (or_min2 O.calm) g1 hm (by decide +kernel) ha g3 g2 s1 s2
        · split at h
          · rename_i _ _ _ _ q; cases h; subst q; exact pe_callB or_divmod g1 hm (by decide +kernel) ha g3 g2 s1 s2
          · cases h
    · cases h
end
end Zv

set_option maxRecDepth 100000
set_option maxHeartbeats 8000000
/-! Ev10: the small language's runs are Python's: expressions. -/
namespace Zv
open PySem PySem.Spec PyProof.Rows L2
section
variable {T : Tab} {G : Prg} {cl : Cl} {N : List Str}
/-- what is shown of an expression -/
def SE (T : Tab) (G : Prg) (cl : Cl) (N : List Str) (n : Nat) : Prop := ∀ (sc : Scope) (e : Expr) (c : Ex), cE T N n sc e = some c → ∀ {X : Cx} {k : Nat} {WW : WX}, XOk T G cl N sc X k → Takes X WW →
  PE X e (rdE X.K WW (ev G cl c)) ∧ (tstOk n e = true → PT X e (tB (rdE X.K WW (ev G cl c)))) ∧ (∀ op es pos, e = .BoolOp op es pos → tstOk n e = true → PW X e (tB (rdE X.K WW (ev G cl c))))
theorem s_args {n : Nat} (ih : SE T G cl N n) {sc : Scope} {X : Cx} {k : Nat} {WW : WX} (O : XOk T G cl N sc X k) (tk : Takes X WW) : ∀ (es : List Expr) (cs : List Ex), es.all noStar = true → allSome (cE T N n sc) es = some cs → PA X es (rdA X.K WW (evs G cl cs))
  | [], _, _, h => by cases h; exact z_nil
  | e :: es, cs, hs, h => by
    simp only [allSome] at h
    split at h
    · cases h
    · rename_i c hc
      split at h
      · cases h
      · rename_i cs0 hcs
        cases h
        simp only [List.all_cons, Bool.and_eq_true] at hs
        exact z_cons (ih sc e c hc O tk).1 (s_args ih O tk es cs0 hs.2 hcs) (star_cons hs.1)
theorem s_kws {n : Nat} (ih : SE T G cl N n) {sc : Scope} {X : Cx} {k : Nat} {WW : WX} (O : XOk T G cl N sc X k) (tk : Takes X WW) : ∀ (kws : List Keyword) (cs : List Ex), allSome (cE T N n sc) (kws.map (·.value)) = some cs → PK X kws (rdA X.K WW (evs G cl cs))
  | [], _, h => by cases h; exact z_knil
  | ⟨nm, e, kp⟩ :: kws, cs, h => by
    simp only [List.map_cons, allSome] at h
    split at h
    · cases h
    · rename_i c hc
      split at h
      · cases h
      · rename_i cs0 hcs
        cases h
        exact z_kcons (ih sc e c hc O tk).1 (s_kws ih O tk kws cs0 hcs)
theorem s_pj {n : Nat} (ih : SE T G cl N n) {sc : Scope} {X : Cx} {k : Nat} {WW : WX} (O : XOk T G cl N sc X k) (tk : Takes X WW) : ∀ (es : List Expr) (cs : List Ex), allSome (cE T N n sc) es = some cs → PJ X es (tEvs X WW G cl cs)
  | [], _, h => by cases h; exact .nil
  | e :: es, cs, h => by
    simp only [allSome] at h
    split at h
    · cases h
    · rename_i c hc
      split at h
      · cases h
      · rename_i cs0 hcs
        cases h
        exact .cons (ih sc e c hc O tk).1 (s_pj ih O tk es cs0 hcs)
theorem s_ars {n : Nat} (ih : SE T G cl N n) {sc : Scope} {X : Cx} {k : Nat} {WW : WX} (O : XOk T G cl N sc X k) (tk : Takes X WW) : ∀ (es : List Expr) (cs : List Ar), allSome (cAr (cE T N n sc)) es = some cs → PA X es (rdA X.K WW (evR G cl cs))
  | [], _, h => by cases h; exact z_nilR
  | e :: es, cs, h => by
    simp only [allSome] at h
    split at h
    · cases h
    · rename_i c hc
      split at h
      · cases h
      · rename_i cs0 hcs
        cases h
        have r := s_ars ih O tk es cs0 hcs
        unfold cAr at hc
        split at hc
        · obtain ⟨c', hc', rfl⟩ := Option.map_eq_some_iff.mp hc
          exact z_consS (ih sc _ c' hc' O tk).1 r
        · rename_i hns
          obtain ⟨c', hc', rfl⟩ := Option.map_eq_some_iff.mp hc
          refine z_consP (ih sc _ c' hc' O tk).1 r (star_cons ?_)
          cases e <;> first | rfl | exact absurd rfl (hns _ _)
theorem s_it {n : Nat} (ih : SE T G cl N n) (hE : ∀ {X : Cx} {k : Nat} {WW : WX} {sc : Scope} {a : Expr} {ca : Ex} {elts : List Expr} {kk : Nat} {tpos p pos : Pos}, XOk T G cl N sc X k → Gl X "enumerate" → X.mg "enumerate" = none → PE X a (rdE X.K WW (ev G cl ca)) → noStar a = true →
      PI X (.Tuple elts kk tpos) (.Call (.Name "enumerate" p) [a] [] pos) (rdM X.K WW (relI X.K) (evI G cl (.enum ca)))) {sc : Scope} {X : Cx} {k : Nat} {WW : WX} (O : XOk T G cl N sc X k) (tk : Takes X WW) {tg iter : Expr} {it : It} (h : cIt T (cE T N n sc) sc tg iter = some it) :
    PI X tg iter (rdM X.K WW (relI X.K) (evI G cl it)) ∧ ∀ x, foldedSetIterable iter X.env x = pure x := by
  unfold cIt at h
  split at h
  · rename_i g p a pos
    refine ⟨?_, fun _ => rfl⟩
    split at h
    · rename_i hc
      simp only [Bool.and_eq_true, decide_eq_true_eq] at hc
      obtain ⟨⟨h1, h2⟩, rfl⟩ := hc
      split at h
      · rename_i hs
        obtain ⟨c, hc, rfl⟩ := Option.map_eq_some_iff.mp h
        exact z_rng1 (O.gl h1).1 (O.facts.bis _ h2) (ih sc a c hc O tk).1 hs
      · cases h
    · split at h
      · rename_i _ hc
        simp only [Bool.and_eq_true, decide_eq_true_eq] at hc
        obtain ⟨⟨h1, h2⟩, rfl⟩ := hc
        split at h
        · rename_i hs
          simp only [Bool.and_eq_true] at hs
          obtain ⟨c, hc, rfl⟩ := Option.map_eq_some_iff.mp h
          cases tg with
          | Tuple elts kk tpos => exact hE O (O.gl h1).1 (O.facts.bis _ h2) (ih sc a c hc O tk).1 hs.2
          | _ => simp [isTupE] at hs
        · cases h
      · obtain ⟨c, hc, rfl⟩ := Option.map_eq_some_iff.mp h
        exact z_seq (ih sc _ c hc O tk).1
  · rename_i g p a b pos
    refine ⟨?_, fun _ => rfl⟩
    split at h
    · rename_i hc
      simp only [Bool.and_eq_true, decide_eq_true_eq] at hc
      obtain ⟨⟨h1, h2⟩, rfl⟩ := hc
      split at h
      · rename_i hs
        simp only [Bool.and_eq_true] at hs
        split at h
        · rename_i x y hx hy
          cases h
          exact z_rng2 (O.gl h1).1 (O.facts.bis _ h2) (ih sc a x hx O tk).1 (ih sc b y hy O tk).1 hs.1 hs.2
        · cases h
      · cases h
    · split at h
      · rename_i _ hc
        simp only [Bool.and_eq_true, decide_eq_true_eq] at hc
        obtain ⟨⟨h1, h2⟩, rfl⟩ := hc
        split at h
        · rename_i hs
          simp only [Bool.and_eq_true] at hs
          split at h
          · rename_i x y hx hy
            cases h
            cases tg with
            | Tuple elts kk tpos => exact z_zip (O.gl h1).1 (O.facts.bis _ h2) (ih sc a x hx O tk).1 (ih sc b y hy O tk).1 hs.1.2 hs.2
            | _ => simp [isTupE] at hs
          · cases h
        · cases h
      · obtain ⟨c, hc, rfl⟩ := Option.map_eq_some_iff.mp h
        exact z_seq (ih sc _ c hc O tk).1
  · rename_i g p a b c0 pos
    refine ⟨?_, fun _ => rfl⟩
    split at h
    · rename_i hc
      simp only [Bool.and_eq_true, decide_eq_true_eq] at hc
      obtain ⟨⟨h1, h2⟩, rfl⟩ := hc
      split at h
      · rename_i hs
        simp only [Bool.and_eq_true] at hs
        split at h
        · rename_i x y z hx hy hz
          cases h
          exact z_rng3 (O.gl h1).1 (O.facts.bis _ h2) (ih sc a x hx O tk).1 (ih sc b y hy O tk).1 (ih sc c0 z hz O tk).1 hs.1 hs.2.1 hs.2.2
        · cases h
      · cases h
    · obtain ⟨c, hc, rfl⟩ := Option.map_eq_some_iff.mp h
      exact z_seq (ih sc _ c hc O tk).1
  · cases h
  · rename_i hns
    obtain ⟨c, hc, rfl⟩ := Option.map_eq_some_iff.mp h
    refine ⟨z_seq (ih sc _ c hc O tk).1, fun x => ?_⟩
    unfold foldedSetIterable
    split
    · rename_i e1 e2 e3
      exact absurd rfl (hns _ _ _)
    · rfl
theorem form_ok {env : Env} {pos : Pos} {es : List Expr} (hs : es.all noStar = true) (hl : es.length < 25) : methodCallForm (es.length + ([] : List Keyword).length) (backTo pos (starEach es env)) (backToKw pos (keywordEach [] env)) = true := by
  have h1 : (backTo pos (starEach es env)).all (!·.1) = true := by
    induction es with
    | nil => rfl
    | cons e es ih =>
      simp only [List.all_cons, Bool.and_eq_true] at hs
      rw [star_cons hs.1]
      have := ih hs.2 (by simp at hl; omega)
      show (!false && (backTo pos (starEach es env)).all (!·.1)) = true
      rw [this]; rfl
  unfold methodCallForm
  rw [h1]
  have : (es.length + 0 + 0 < 30) := by omega
  simp [backToKw, keywordEach]
  omega
theorem meth_eval {o : Expr} {m : Str} {ap cp : Pos} {es : List Expr} {env : Env} (hns : noSuper o = true) (hs : es.all noStar = true) (hline : (ap.endLine == cp.line) = true) (hl : es.length < 25) :
    eval (.Call (.Attribute o m ap) es [] cp) env = (do
      let ov ← eval o env
      standAt ap.atName
      let (f, first) ← holding [ov] (getMethod ov m (do return (← importBound o env).getD true))
      callWith cp f first (backTo cp (starEach es env)) (backToKw cp (keywordEach [] env))) := by
  have e0 : eval (.Call (.Attribute o m ap) es [] cp) env = (do
    let ov ← attributeBase o m env (eval o env)
    standAt ap.atName
    methodCall o m ap cp env ov (es.length + ([] : List Keyword).length) (backTo cp (starEach es env)) (backToKw cp (keywordEach [] env))) := rfl
  rw [e0, base_of hns]
  congr
  funext ov
  congr
  funext _
  unfold methodCall calleeOf methodCallPos
  rw [form_ok hs hl]
  simp only [hline, if_true, Bool.not_true, Bool.false_or]
  rfl
/-- a value as a test -/
theorem vt {X : Cx} {e : Expr} {t : TE} (h : PE X e t) (hn : ∀ whole, isTrue e X.env whole = (do let v ← whole; standAt e.pos; holding [v] (truthy v))) : PT X e (tB t) := pt_val h hn
theorem noB {e : Expr} {n : Nat} {P : Prop} (hn : ∀ op es pos, e ≠ .BoolOp op es pos) : (∀ op es pos, e = .BoolOp op es pos → tstOk n e = true → P) := fun op es pos z => absurd z (hn op es pos)
theorem s_E (hE : ∀ {X : Cx} {k : Nat} {WW : WX} {sc : Scope} {a : Expr} {ca : Ex} {elts : List Expr} {kk : Nat} {tpos p pos : Pos}, XOk T G cl N sc X k → Gl X "enumerate" → X.mg "enumerate" = none → PE X a (rdE X.K WW (ev G cl ca)) → noStar a = true →
      PI X (.Tuple elts kk tpos) (.Call (.Name "enumerate" p) [a] [] pos) (rdM X.K WW (relI X.K) (evI G cl (.enum ca)))) : ∀ n, SE T G cl N n
  | 0 => fun sc e c h => by cases h
  | n + 1 => fun sc e c h => by
    have ih := s_E hE n
    intro X k WW O tk
    have bad : ∀ (σ : L2.St) (H : Hp) {Q : VK}, rdE X.K WW (ev G cl .bad) σ H Q → False := fun σ H Q q => by
      obtain ⟨_, _, _, _, _, g⟩ := q
      exact g
    replace h : cStep T N (cE T N n) n sc e = some c ∨ c = .bad := by
      change some ((cStep T N (cE T N n) n sc e).getD .bad) = some c at h
      cases hh : cStep T N (cE T N n) n sc e with
      | none => rw [hh] at h; cases h; exact .inr rfl
      | some c' => rw [hh] at h; cases h; exact .inl rfl
    rcases h with h | rfl
    rotate_left
    · exact ⟨⟨fun pins s σ H Q I q => (bad σ H q).elim⟩, fun _ => ⟨fun pins s σ H Q I q => (bad σ H q).elim⟩, fun _ _ _ _ _ => ⟨fun wh pins s σ H Q I q => (bad σ H q).elim⟩⟩
    unfold cStep at h
    split at h
    · -- a name
      rename_i x pos
      split at h
      · rename_i hok
        simp only [okName, Bool.and_eq_true, Bool.not_eq_true'] at hok
        have hv : ∀ {kd : NameKind}, sc.names.lookup x = some kd → (kd = .local ∨ kd = .cell ∨ kd = .free) → (slot N x).map Ex.var = some c → PE X (.Name x pos) (rdE X.K WW (ev G cl c)) := fun e1 e2 h => by
          obtain ⟨i, hi, rfl⟩ := Option.map_eq_some_iff.mp h
          exact z_var (by rw [O.eN]; exact slot_at hi) (O.vis e1 e2) hok.1 hok.2.1
        have key : PE X (.Name x pos) (rdE X.K WW (ev G cl c)) := by
          split at h
          · rename_i e1; exact hv e1 (.inl rfl) h
          · rename_i e1; exact hv e1 (.inr (.inl rfl)) h
          · rename_i e1; exact hv e1 (.inr (.inr rfl)) h
          · rename_i e1
            split at h
            · rename_i hc
              cases h
              obtain ⟨wv, v, u, h1, h2, h3, h4⟩ := O.facts.con x hc
              exact z_glo h1 ((O.scp x _ e1).2 (by decide)) h2 h3 h4 hok.1
            · cases h
          · cases h
        exact ⟨key, fun _ => vt key (fun _ => rfl), noB (fun _ _ _ z => by cases z)⟩
      · cases h
    · -- a constant
      rename_i cv kk pos
      have key : PE X (.Constant cv kk pos) (rdE X.K WW (ev G cl c)) := by
        split at h
        · cases h; exact z_con (t := fun _ _ _ => True) pe_int (fun _ _ => rfl)
        · cases h; exact z_con (t := fun _ _ _ => True) pe_str (fun _ _ => rfl)
        · cases h; exact z_con (t := fun _ _ _ => True) pe_bl (fun _ _ => rfl)
        · cases h; exact z_con (t := fun _ _ _ => True) pe_non (fun _ _ => rfl)
        · cases h
      exact ⟨key, fun _ => vt key (fun _ => rfl), noB (fun _ _ _ z => by cases z)⟩
    · -- an operation
      rename_i a op b pos
      split at h
      · rename_i o x y ho hx hy
        cases h
        have pa := (ih sc a x hx O tk).1
        have pb := (ih sc b y hy O tk).1
        have key : PE X (.BinOp a op b pos) (rdE X.K WW (ev G cl (.op (if T.m && decide (o = .add) then .addm else o) [x, y]))) := by
          split
          · rename_i hm
            simp only [Bool.and_eq_true, decide_eq_true_eq] at hm
            obtain ⟨_, rfl⟩ := hm
            cases op <;> simp [cOp] at ho
            exact z_two (t := fun _ _ _ => True) (fun h1 h2 => pe_op or_addm h1 h2) pa pb
          cases op <;> simp [cOp] at ho <;> subst ho
          · exact z_two (t := fun _ _ _ => True) (fun h1 h2 => pe_op or_add h1 h2) pa pb
          · exact z_two (t := fun _ _ _ => True) (fun h1 h2 => pe_op or_sub h1 h2) pa pb
          · exact z_two (t := fun _ _ _ => True) (fun h1 h2 => pe_op or_mul h1 h2) pa pb
          · exact z_two (t := fun _ _ _ => True) (fun h1 h2 => pe_op or_mod h1 h2) pa pb
          · exact z_two (t := fun _ _ _ => True) (fun h1 h2 => pe_op or_pow h1 h2) pa pb
          · exact z_two (t := fun _ _ _ => True) (fun h1 h2 => pe_op or_fdiv h1 h2) pa pb
        exact ⟨key, fun _ => vt key (fun _ => rfl), noB (fun _ _ _ z => by cases z)⟩
      · cases h
    · -- -a
      rename_i a pos
      obtain ⟨x, hx, rfl⟩ := Option.map_eq_some_iff.mp h
      have pa := (ih sc a x hx O tk).1
      have key : PE X (.UnaryOp .USub a pos) (rdE X.K WW (ev G cl (.op .neg [x]))) := z_one (fun h1 => pe_un or_neg h1) pa
      exact ⟨key, fun _ => vt key (fun _ => rfl), noB (fun _ _ _ z => by cases z)⟩
    · -- not a
      rename_i a pos
      obtain ⟨x, hx, rfl⟩ := Option.map_eq_some_iff.mp h
      have pa := ih sc a x hx O tk
      exact ⟨z_not pa.1, fun ht => z_notT (pa.2.1 ht), noB (fun _ _ _ z => by cases z)⟩
    · -- one operand
      rename_i op a pos
      have pa := ih sc a c h O tk
      have pw : tstOk (n + 1) (.BoolOp op [a] pos) = true → PW X (.BoolOp op [a] pos) (tB (rdE X.K WW (ev G cl c))) := fun ht => by
        cases op with
        | And => exact pw_and1 (pa.2.1 ht)
        | Or => exact pw_or1 (pa.2.1 ht)
      exact ⟨pe_one pa.1, fun ht => (pw ht).pt, fun _ _ _ _ ht => pw ht⟩
    · -- and
      rename_i a b r pos
      split at h
      · rename_i x y hx hy
        cases h
        have pa := ih sc a x hx O tk
        have pb := ih sc _ y hy O tk
        have pw : tstOk (n + 1) (.BoolOp .And (a :: b :: r) pos) = true → PW X (.BoolOp .And (a :: b :: r) pos) (tB (rdE X.K WW (ev G cl (.and x y)))) := fun ht => by
          simp only [tstOk, Bool.and_eq_true] at ht
          exact z_andT (pa.2.1 ht.1) (pb.2.2 _ _ _ rfl ht.2)
        exact ⟨z_and pa.1 pb.1, fun ht => (pw ht).pt, fun _ _ _ _ ht => pw ht⟩
      · cases h
    · -- or
      rename_i a b r pos
      split at h
      · rename_i x y hx hy
        cases h
        have pa := ih sc a x hx O tk
        have pb := ih sc _ y hy O tk
        have pw : tstOk (n + 1) (.BoolOp .Or (a :: b :: r) pos) = true → PW X (.BoolOp .Or (a :: b :: r) pos) (tB (rdE X.K WW (ev G cl (.or x y)))) := fun ht => by
          simp only [tstOk, Bool.and_eq_true] at ht
          exact z_orT (pa.2.1 ht.1) (pb.2.2 _ _ _ rfl ht.2)
        exact ⟨z_or pa.1 pb.1, fun ht => (pw ht).pt, fun _ _ _ _ ht => pw ht⟩
      · cases h
    · -- a if c else b
      rename_i c0 a b pos
      split at h
      · rename_i ht
        split at h
        · rename_i z x y hz hx hy
          cases h
          exact ⟨z_ite ((ih sc c0 z hz O tk).2.1 ht) (ih sc a x hx O tk).1 (ih sc b y hy O tk).1, fun (q : tstOk (n + 1) (.IfExp c0 a b pos) = true) => absurd q (by simp [tstOk]), noB (fun _ _ _ z => by cases z)⟩
        · cases h
      · cases h
    · -- a comparison
      rename_i a op b pos
      split at h
      · rename_i hc
        simp only [Bool.and_eq_true, Bool.or_eq_true, decide_eq_true_eq] at hc
        obtain ⟨x, hx, rfl⟩ := Option.map_eq_some_iff.mp h
        have pa := (ih sc a x hx O tk).1
        cases b with
        | Constant cv kk p2 =>
          cases cv with
          | none =>
            rcases hc.2 with rfl | rfl
            · exact ⟨z_is or_isN pa, fun _ => z_isT or_isN pa, noB (fun _ _ _ z => by cases z)⟩
            · exact ⟨z_is or_isnotN pa, fun _ => z_isT or_isnotN pa, noB (fun _ _ _ z => by cases z)⟩
          | _ => simp [isNoneE] at hc
        | _ => simp [isNoneE] at hc
      · split at h
        · cases h
        · rename_i _ hbm
          split at h
          · rename_i hop
            split at h
            · rename_i x y hx hy
              cases h
              have pa := (ih sc a x hx O tk).1
              have pb := (ih sc b y hy O tk).1
              have hm : behindInMarks op b = false := by simpa using hbm
              simp only [Bool.or_eq_true, decide_eq_true_eq] at hop
              have hop2 : op = if decide (op = CmpOp.NotEq) then CmpOp.NotEq else CmpOp.Eq := by
                rcases hop with rfl | rfl <;> rfl
              obtain ⟨k1, k2⟩ := z_eqo (neg := decide (op = .NotEq)) (pos := pos) (WW := WW) (EO := ⟨O.facts.eqf⟩) (O.room.mono (by show k + 5 + 1 ≤ k + 7; omega)) pa pb (by rw [← hop2]; exact hm)
              rw [← hop2] at k1 k2
              exact ⟨k1, fun _ => k2, noB (fun _ _ _ z => by cases z)⟩
            · cases h
          split at h
          · rename_i o x y ho hx hy
            cases h
            have pa := (ih sc a x hx O tk).1
            have pb := (ih sc b y hy O tk).1
            have hu := O.u64
            have hm : behindInMarks op b = false := by simpa using hbm
            have both : ∀ {r : R2}, OpR X (compareOp op) (rP2 X.K o) → PE X (.Compare a [op] [b] pos) (rdE X.K WW (ev G cl (.op o [x, y]))) ∧ (tstOk (n + 1) (.Compare a [op] [b] pos) = true → PT X (.Compare a [op] [b] pos) (tB (rdE X.K WW (ev G cl (.op o [x, y]))))) := fun ho =>
              ⟨z_two (t := fun _ _ _ => True) (fun h1 h2 => pe_cmpR ho h1 h2 hm) pa pb, fun _ => z_twoT (t := fun _ _ _ => True) (fun h1 h2 => pt_cmpR ho h1 h2 hm) pa pb⟩
            have key : OpR X (compareOp op) (rP2 X.K o) := by
              cases op <;> simp [cCmp] at ho <;> subst ho
              · exact or_lt
              · exact or_le
              · exact or_gt
              · exact or_ge
              · exact or_in hu
              · exact or_notin hu
            obtain ⟨k1, k2⟩ := both (r := fun _ _ _ _ => True) key
            exact ⟨k1, k2, noB (fun _ _ _ z => by cases z)⟩
          · cases h
    · -- a chain
      rename_i a op op2 b c0 pos
      split at h
      · rename_i o p x y z ho hp hx hy hz
        cases h
        have pa := (ih sc a x hx O tk).1
        have pb := (ih sc b y hy O tk).1
        have pc := (ih sc c0 z hz O tk).1
        have ord : ∀ {op : CmpOp} {o : Op}, cOrd op = some o → OpR X (compareOp op) (rP2 X.K o) ∧ ∀ e, behindInMarks op e = false := fun {op o} h => by
          cases op <;> simp [cOrd] at h <;> subst h
          · exact ⟨or_lt, fun e => nomark e⟩
          · exact ⟨or_le, fun e => nomark e⟩
          · exact ⟨or_gt, fun e => nomark e⟩
          · exact ⟨or_ge, fun e => nomark e⟩
        have hm : lastMarks [op, op2] [b, c0] = false := (ord hp).2 c0
        exact ⟨(pe_chain (ord ho).1 (ord hp).1 pa pb pc hm).imp fun σ H Q h => rd_chain h, fun _ => (pt_chain (ord ho).1 (ord hp).1 pa pb pc hm).imp fun σ H Q h => rd_chain h, noB (fun _ _ _ z => by cases z)⟩
      · cases h
    · -- a tuple
      rename_i es kk pos
      split at h
      · rename_i hs
        split at h
        · rename_i cs hcs
          cases h
          have key : PE X (.Tuple es kk pos) (rdE X.K WW (ev G cl (.op .tup cs))) := z_tup (s_args ih O tk es cs hs hcs)
          exact ⟨key, fun _ => vt key (fun _ => rfl), noB (fun _ _ _ z => by cases z)⟩
        · cases h
      · cases h
    · -- a list
      rename_i es pos
      split at h
      · rename_i hs
        split at h
        · rename_i cs hcs
          cases h
          have key : PE X (.List es pos) (rdE X.K WW (ev G cl (.op (.lst T.m) cs))) := z_lst (s_args ih O tk es cs hs hcs)
          exact ⟨key, fun _ => vt key (fun _ => rfl), noB (fun _ _ _ z => by cases z)⟩
        · cases h
      · split at h
        · rename_i cs hcs
          cases h
          have key : PE X (.List es pos) (rdE X.K WW (ev G cl (.lsts T.m cs))) := z_lsts (s_ars ih O tk es cs hcs)
          exact ⟨key, fun _ => vt key (fun _ => rfl), noB (fun _ _ _ z => by cases z)⟩
        · cases h
    · -- a[:]
      rename_i a p2 pos
      obtain ⟨x, hx, rfl⟩ := Option.map_eq_some_iff.mp h
      have key : PE X (.Subscript a (.Slice none none none p2) pos) _ := z_slc00 (ih sc a x hx O tk).1
      exact ⟨key, fun _ => vt key (fun _ => rfl), noB (fun _ _ _ z => by cases z)⟩
    · rename_i a b p2 pos
      split at h
      · rename_i x y hx hy
        cases h
        have key : PE X (.Subscript a (.Slice (some b) none none p2) pos) _ := z_slc10 (ih sc a x hx O tk).1 (ih sc b y hy O tk).1
        exact ⟨key, fun _ => vt key (fun _ => rfl), noB (fun _ _ _ z => by cases z)⟩
      · cases h
    · rename_i a b p2 pos
      split at h
      · rename_i x y hx hy
        cases h
        have key : PE X (.Subscript a (.Slice none (some b) none p2) pos) _ := z_slc01 (ih sc a x hx O tk).1 (ih sc b y hy O tk).1
        exact ⟨key, fun _ => vt key (fun _ => rfl), noB (fun _ _ _ z => by cases z)⟩
      · cases h
    · rename_i a b c0 p2 pos
      split at h
      · rename_i x y z hx hy hz
        cases h
        have key : PE X (.Subscript a (.Slice (some b) (some c0) none p2) pos) _ := z_slc11 (ih sc a x hx O tk).1 (ih sc b y hy O tk).1 (ih sc c0 z hz O tk).1
        exact ⟨key, fun _ => vt key (fun _ => rfl), noB (fun _ _ _ z => by cases z)⟩
      · cases h
    · -- a[::-1]
      rename_i a kk p1 p2 p3 pos
      obtain ⟨x, hx, rfl⟩ := Option.map_eq_some_iff.mp h
      have key : PE X (.Subscript a (.Slice none none (some (.UnaryOp .USub (.Constant (.int 1) kk p1) p2)) p3) pos) _ := z_rev (ih sc a x hx O tk).1
      exact ⟨key, fun _ => vt key (fun _ => rfl), noB (fun _ _ _ z => by cases z)⟩
    · cases h
    · -- a[b]
      rename_i a b pos hn1 hn2 hn3 hn4 hn0 hn5
      split at h
      · rename_i x y hx hy
        cases h
        have hp : PlainIx b := fun o i => by
          cases b with
          | Slice lo hi step p2 =>
            cases step with
            | some st => exact absurd rfl (hn5 lo hi st p2)
            | none =>
              cases lo with
              | none => cases hi with
                | none => exact absurd rfl (hn1 p2)
                | some b => exact absurd rfl (hn3 b p2)
              | some a => cases hi with
                | none => exact absurd rfl (hn2 a p2)
                | some b => exact absurd rfl (hn4 a b p2)
          | _ => rfl
        have key : PE X (.Subscript a b pos) _ := z_ix (ih sc a x hx O tk).1 (ih sc b y hy O tk).1 hp
        exact ⟨key, fun _ => vt key (fun _ => rfl), noB (fun _ _ _ z => by cases z)⟩
      · cases h
    · -- o.f
      rename_i o f pos
      split at h
      · rename_i hns
        obtain ⟨x, hx, rfl⟩ := Option.map_eq_some_iff.mp h
        have key : PE X (.Attribute o f pos) _ := z_fld (base_of hns) (fun C hC => O.facts.fld C f hC) (ih sc o x hx O tk).1
        exact ⟨key, fun _ => vt key (fun _ => rfl), noB (fun _ _ _ z => by cases z)⟩
      · cases h
    · -- a call
      rename_i f p es pos
      split at h
      · rename_i hg
        obtain ⟨g1, g2, g3⟩ := O.gl hg
        have key : PE X (.Call (.Name f p) es [] pos) (rdE X.K WW (ev G cl c)) := by
          split at h
          · rename_i hb
            split at h
            · rename_i hf0
              subst hf0
              exact isi_ok O h hb hg (fun a ca hca => (ih sc a ca hca O tk).1)
            split at h
            · rename_i hf1
              subst hf1
              unfold cStr at h
              split at h
              · split at h
                · rename_i a hs
                  obtain ⟨x, hx, rfl⟩ := Option.map_eq_some_iff.mp h
                  exact z_stro ⟨O.facts.strf⟩ (O.room.mono (by omega)) g1 (O.facts.bis _ hb) (ih sc a x hx O tk).1 hs
                · cases h
              · cases h
            split at h
            · rename_i hf2
              subst hf2
              unfold cSset at h
              split at h
              · split at h
                · rename_i gg pg aa posg hs
                  simp only [Bool.and_eq_true, decide_eq_true_eq] at hs
                  obtain ⟨rfl, hs1, hs2, hs3⟩ := hs
                  obtain ⟨x, hx, rfl⟩ := Option.map_eq_some_iff.mp h
                  exact z_sset O.calm (O.gl hs1) (O.facts.bis _ hs2) ⟨g1, g2, g3⟩ (O.facts.bis _ hb) (ih sc aa x hx O tk).1 hs3
                · cases h
              · cases h
            split at h
            · rename_i hs
              split at h
              · rename_i o cs ho hcs
                cases h
                cases es with
                | nil => simp [cBi] at ho
                | cons e es => exact z_args (fun ha => bi_ok O ho hb hg ha hs) (s_args ih O tk _ cs hs hcs)
              · cases h
            · cases h
          · split at h
            · rename_i _ hf
              split at h
              · rename_i hs
                obtain ⟨cs, hcs, rfl⟩ := Option.map_eq_some_iff.mp h
                obtain ⟨f1, f2, f3⟩ := O.facts.fn f hf
                have hr : Rm k X.A := O.room.mono (by omega)
                cases es with
                | nil => cases hcs; exact z_call0 f3 hr g1 f1 f2 tk g2
                | cons e es => exact z_call f3 hr g1 f1 f2 tk (s_args ih O tk _ cs hs hcs) hs g2
              · cases h
            · split at h
              · rename_i _ _ hC
                split at h
                · rename_i e r
                  split at h
                  · rename_i hs
                    simp only [Bool.and_eq_true, Bool.or_eq_true] at hs
                    obtain ⟨cs, hcs, rfl⟩ := Option.map_eq_some_iff.mp h
                    obtain ⟨fi, i1, i2, i3, i4⟩ := O.facts.made f hC
                    refine z_mk i1 i2 i4 (O.room.mono (by omega)) g1 i3 tk (s_ars ih O tk _ cs hcs) hs.1 ?_ g2
                    rcases hs.2 with h1 | h1
                    · exact .inl h1
                    · refine .inr ?_
                      have : ∀ r : List Expr, (r.any fun x => !noStar x) = true → (backTo pos (starEach r X.env)).any (·.1) = true := by
                        intro r
                        induction r with
                        | nil => intro z; cases z
                        | cons e r ihr =>
                          intro z
                          rw [List.any_cons, Bool.or_eq_true] at z
                          by_cases he : noStar e = true
                          · rw [star_cons he]
                            rcases z with z | z
                            · rw [he] at z; cases z
                            · show (false || (backTo pos (starEach r X.env)).any (·.1)) = true
                              rw [ihr z]; rfl
                          · cases e <;> first | exact absurd rfl he | rfl
                      exact this r h1
                  · cases h
                · cases h
              · cases h
        exact ⟨key, fun _ => vt key (fun _ => rfl), noB (fun _ _ _ z => by cases z)⟩
      · cases h
    · -- a call with keywords
      rename_i f p es kw kws pos
      split at h
      · rename_i hc
        simp only [Bool.and_eq_true, Bool.not_eq_true'] at hc
        obtain ⟨hgl, hfn, hnb, hs, hst⟩ := hc
        split at h
        · rename_i ks cs ds hks hcs hds
          split at h
          · rename_i hok
            cases h
            obtain ⟨g1, g2, g3⟩ := O.gl hgl
            obtain ⟨m1, m2, m3⟩ := O.facts.fn f hfn
            rw [O.facts.par] at hst hok
            have key : PE X (.Call (.Name f p) es (kw :: kws) pos) (rdE X.K WW (ev G cl (.call f (some (permOf (T.par f).1 es.length ks)) (cs ++ ds)))) := by
              rw [O.facts.par]
              exact z_callK m3 (O.room.mono (by omega)) g1 m1 m2 tk hst hok hks (s_args ih O tk es cs hs hcs) (s_kws ih O tk (kw :: kws) ds hds) hs (allSome_len hcs).symm ((allSome_len hds).symm.trans (by rw [List.length_map]; exact allSome_len (f := fun k : Keyword => k.arg) hks)) g2
            exact ⟨key, fun _ => vt key (fun _ => rfl), noB (fun _ _ _ z => by cases z)⟩
          · cases h
        · cases h
      · cases h
    · -- a method's call
      rename_i o m ap es cp
      split at h
      · rename_i hso
        have key : PE X (.Call (.Attribute o m ap) es [] cp) (rdE X.K WW (ev G cl c)) := by
          split at h
          · rename_i C f e r hst
            split at h
            · rename_i hs
              simp only [Bool.and_eq_true] at hs
              obtain ⟨cs, hcs, rfl⟩ := Option.map_eq_some_iff.mp h
              unfold statOf at hst
              split at hst
              · rename_i C' np
                split at hst
                · rename_i hgl
                  obtain ⟨f', hf, e'⟩ := Option.map_eq_some_iff.mp hst
                  cases e'
                  obtain ⟨g1, g2, g3⟩ := O.gl hgl
                  obtain ⟨m1, m2, m3⟩ := O.facts.stat _ _ _ hf
                  exact z_stat m2 m3 (O.room.mono (by omega)) g1 m1 g2 tk (s_args ih O tk _ cs hs.1 hcs) hs.1 (meth_eval rfl hs.1 hs.2.1 (of_decide_eq_true hs.2.2))
                · cases hst
              · cases hst
            · cases h
          · cases h
        exact ⟨key, fun _ => vt key (fun _ => rfl), noB (fun _ _ _ z => by cases z)⟩
      split at h
      · rename_i hns
        have key : PE X (.Call (.Attribute o m ap) es [] cp) (rdE X.K WW (ev G cl c)) := by
          split at h
          · rename_i p a hm
            split at h
            · rename_i hs
              simp only [Bool.and_eq_true] at hs
              split at h
              · rename_i x y hx hy
                cases h
                have pa := (ih sc o x hx O tk).1
                have pb := (ih sc a y hy O tk).1
                unfold cMt at hm
                split at hm
                · rename_i q; cases hm; subst q
                  exact z_bm (T := "list") (.inl ⟨.inl rfl, rfl⟩) PySem.F.plainAttrs_list PySem.F.slot_list_append PySem.F.type_list_append or_append.toS pa pb hns hs.1 hs.2
                · split at hm
                  · rename_i _ q; cases hm; subst q
                    exact z_bm (T := "list") (.inl ⟨.inr rfl, rfl⟩) PySem.F.plainAttrs_list PySem.F.slot_list_extend PySem.F.type_list_extend or_extend.toS pa pb hns hs.1 hs.2
                  · split at hm
                    · rename_i _ _ q; cases hm; subst q
                      exact z_bm (T := "str") (.inr ⟨.inl rfl, rfl⟩) PySem.F.plainAttrs_str PySem.F.slot_str_split PySem.F.type_str_split or_split.toS pa pb hns hs.1 hs.2
                    · split at hm
                      · rename_i _ _ _ q; cases hm; subst q
                        exact z_bm (T := "str") (.inr ⟨.inr (.inl rfl), rfl⟩) PySem.F.plainAttrs_str PySem.F.slot_str_join PySem.F.type_str_join or_join.toS pa pb hns hs.1 hs.2
                      · split at hm
                        · rename_i _ _ _ _ q; cases hm; subst q
                          exact z_bm (T := "str") (.inr ⟨.inr (.inr rfl), rfl⟩) PySem.F.plainAttrs_str PySem.F.slot_str_index PySem.F.type_str_index (or_sindex O.calm L2.takes0) pa pb hns hs.1 hs.2
                        · cases hm
              · cases h
            · cases h
          · cases h
          · split at h
            · rename_i hs
              simp only [Bool.and_eq_true] at hs
              split at h
              · rename_i x cs hx hcs
                cases h
                have pa := (ih sc o x hx O tk).1
                have MO : MethOk G cl X k m := ⟨O.facts.meth m hs.1⟩
                have hr : Rm k X.A := O.room.mono (by omega)
                rename_i es0 _ _ _ _ _
                cases es0 with
                | nil => cases hcs; exact z_meth0 MO hr tk pa (meth_eval hns hs.2.1 hs.2.2.1 (of_decide_eq_true hs.2.2.2))
                | cons e es => exact z_meth MO hr tk pa (s_args ih O tk _ cs hs.2.1 hcs) hs.2.1 (meth_eval hns hs.2.1 hs.2.2.1 (of_decide_eq_true hs.2.2.2))
              · cases h
            · cases h
        exact ⟨key, fun _ => vt key (fun _ => rfl), noB (fun _ _ _ z => by cases z)⟩
      · cases h
    · -- {x}
      rename_i a cv pos
      split at h
      · rename_i hcv
        subst hcv
        obtain ⟨x, hx, rfl⟩ := Option.map_eq_some_iff.mp h
        have key : PE X (.FormattedValue a (-1) none pos) _ := z_fmt (ih sc a x hx O tk).1
        exact ⟨key, fun _ => vt key (fun _ => rfl), noB (fun _ _ _ z => by cases z)⟩
      · cases h
    · -- f'..' of one part
      rename_i v pos
      have key : PE X (.JoinedStr [v] pos) _ := pe_joined1 (ih sc v c h O tk).1
      exact ⟨key, fun _ => vt key (fun _ => rfl), noB (fun _ _ _ z => by cases z)⟩
    · -- f'..'
      rename_i v1 v2 r pos
      obtain ⟨cs, hcs, rfl⟩ := Option.map_eq_some_iff.mp h
      have key : PE X (.JoinedStr (v1 :: v2 :: r) pos) _ := z_fstr (s_pj ih O tk _ cs hcs)
      exact ⟨key, fun _ => vt key (fun _ => rfl), noB (fun _ _ _ z => by cases z)⟩
    · -- a list comprehension
      rename_i elt tg iter ifs scope pos
      split at h
      · rename_i it t cs ce hit htg hcs hce
        split at h
        · rename_i hc
          simp only [Bool.and_eq_true, decide_eq_true_eq] at hc
          obtain ⟨hb, hsub, hl, htst⟩ := hc
          cases h
          have bok : BlkOk N sc scope (ownOf N scope.names) := blkOk_by hb
          obtain ⟨pi, hfs⟩ := s_it ih hE O tk hit
          have hown : ∀ i ∈ t.slots, i ∈ (ownOf N scope.names).map (·.2) := fun i hi => by
            have := List.all_eq_true.mp hsub i hi
            simpa using this
          have key : PE X (.ListComp elt [⟨tg, iter, ifs, 0⟩] scope pos) (rdE X.K WW (ev G cl (.lc T.m t ((ownOf N scope.names).map (·.2)) it cs ce))) := by
            refine z_lc O.calm (by rw [O.eN]; exact O.nd) pi (O.blkOk bok) hown (fun s H C cls fp => s_tg n tg t htg (O.blk bok s H C cls fp)) (fun s H C cls fp => ?_) (fun s H C cls fp => (ih scope elt ce hce (O.blk bok s H C cls fp) L2.takes0).1) hfs
            have OB := O.blk bok s H C cls fp
            cases ifs with
            | nil => cases hcs; exact z_c0
            | cons i1 r =>
              simp only [allSome] at hcs
              split at hcs
              · cases hcs
              · rename_i c1 h1
                split at hcs
                · cases hcs
                · rename_i cs0 h0
                  cases hcs
                  have : cs0 = [] := List.eq_nil_of_length_eq_zero (by simp at hl; exact List.length_eq_zero_iff.mpr hl)
                  subst this
                  have hr0 : r = [] := List.eq_nil_of_length_eq_zero (allSome_len h0)
                  subst hr0
                  simp only [List.all_cons, Bool.and_eq_true] at htst
                  exact z_c1 ((ih scope i1 c1 h1 OB L2.takes0).2.1 htst.1)
          exact ⟨key, fun _ => vt key (fun _ => rfl), noB (fun _ _ _ z => by cases z)⟩
        · cases h
      · cases h
    · cases h
end
end Zv

set_option maxRecDepth 100000
set_option maxHeartbeats 8000000
/-! Ev11: the small language's runs are Python's: statements. -/
namespace Zv
open PySem PySem.Spec PyProof.Rows L2
section
variable {T : Tab} {G : Prg} {cl : Cl} {N : List Str} {sc : Scope} {X : Cx} {k : Nat}
theorem sw_no {e : Expr} {tg : Option Expr} {l : Nat} {env : Env} (h : isComp e = false) : swapsWith e tg l env = pure false := by
  cases e <;> first | rfl | (simp [isComp] at h)
theorem sw_tup {e : Expr} {ts : List Expr} {kk : Nat} {p : Pos} {l : Nat} {env : Env} : swapsWithSole [.Tuple ts kk p] e l env = pure false := by
  show swapsWith e (some (.Tuple ts kk p)) l env = pure false
  unfold swapsWith
  cases e <;> rfl
theorem sw_name (O : XOk T G cl N sc X k) {e : Expr} {x : Str} {px : Pos} {l : Nat} {kd : NameKind} (hx : sc.names.lookup x = some kd) (hk : kd = .local ∨ kd = .cell) (hl : (∃ a b c d, e = .ListComp a b c d) ∨ isComp e = false) : swapsWith e (some (.Name x px)) l X.env = pure (swp sc x px e) := by
  rcases hl with ⟨a, b, scope, p, rfl⟩ | hl
  · have hX : X.env.scope.names.lookup x = some kd := (O.scp x kd hx).2 (by rcases hk with rfl | rfl <;> decide)
    have hb : X.env.blockKind = .function := by unfold Env.blockKind; rw [O.kind]; rfl
    have ky : X.env.kindOf x = some kd := hX
    unfold swapsWith
    simp only [hb, ky, Expr.pos, swp, hx]
    show (pure (_ && _ && _ && _) : Sem Bool) = _
    congr 1
    rcases hk with rfl | rfl
    · simp
    · rfl
  · rw [sw_no hl]
    cases e <;> first | rfl | (simp [isComp] at hl)
theorem swaps_none (O : XOk T G cl N sc X k) {ts vs : List Expr} {kk k2 : Nat} {p p2 : Pos} (h : swapsNone sc ts vs = true) : swappedStores [.Tuple ts kk p] (.Tuple vs k2 p2) X.env = pure none := by
  simp only [swapsNone, Bool.and_eq_true] at h
  obtain ⟨hn, h⟩ := h
  have hb : X.env.blockKind = .function := by unfold Env.blockKind; rw [O.kind]; rfl
  have hloc : (ts.filterMap fun
    | .Name id pos => if X.env.kindOf id == some .local && pos.line == (ts.head?.map (·.pos.line)).getD 0 then some id else none
    | _ => none) = locs sc ts := by
    unfold locs
    have : ∀ (l : Nat) (us : List Expr), allNames sc us = true → (us.filterMap fun
        | .Name id pos => if X.env.kindOf id == some .local && pos.line == l then some id else none
        | _ => none) = us.filterMap fun
        | .Name id pos => if sc.names.lookup id == some .local && pos.line == l then some id else none
        | _ => none := by
      intro l us
      induction us with
      | nil => intro _; rfl
      | cons u us ih =>
        intro ha
        simp only [allNames, List.all_cons, Bool.and_eq_true] at ha
        have ih' := ih (by simpa [allNames] using ha.2)
        rw [List.filterMap_cons, List.filterMap_cons, ih']
        cases u with
        | Name id pos =>
          have h1 := ha.1
          simp only [Bool.and_eq_true, Bool.not_eq_true', decide_eq_false_iff_not] at h1
          cases hid : sc.names.lookup id with
          | none => rw [hid] at h1; simp at h1
          | some kd =>
            have hX : X.env.kindOf id = some kd := (O.scp id kd hid).2 (fun z => h1.2 (by rw [hid, z]))
            dsimp only
            rw [hX, hid]
        | _ => rfl
    exact this _ ts hn
  unfold swappedStores
  simp only [hb, hloc]
  simp only [Bool.or_eq_true] at h
  rcases h with ((h | h) | h) | h
  · simp only [h, Bool.true_or, if_true, pure_bind]
  · simp only [h, Bool.or_true, Bool.true_or, if_true, pure_bind]
  · split
    · rfl
    · split
      · rfl
      · refine if_pos ?_
        have e := hloc
        first
          | (rw [e]; simpa using h)
          | (erw [e]; simpa using h)
          | (have h' := h; rw [← e] at h'; exact h')
  · split
    · rfl
    · split
      · rfl
      · split
        · rfl
        · first | rfl | (rw [if_pos h])
theorem swaps_other {ts : List Expr} {kk : Nat} {p : Pos} {e : Expr} {env : Env} (h : ∀ a b c, e ≠ .Tuple a b c) : swappedStores [.Tuple ts kk p] e env = pure none := by
  unfold swappedStores
  cases e <;> first | rfl | exact absurd rfl (h _ _ _)
theorem swaps_two {x y : Str} {px py p p2 : Pos} {kk k2 : Nat} {a b : Expr} {env : Env} (hb : env.blockKind = .function) (hx : env.kindOf x = some .local) (hy : env.kindOf y = some .local) (hl : (py.line == px.line) = true) (hne : ¬ x = y) (h1 : [a, b].all (foldedForSure 8) = false) (h2 : [a, b].all (constantsAlone 8) = false) (sa : noStar a = true) (sb : noStar b = true) :
    swappedStores [.Tuple [.Name x px, .Name y py] kk p] (.Tuple [a, b] k2 p2) env = pure (some [x, y]) := by
  have hst : ([a, b].any fun | .Starred .. => true | _ => false) = false := by
    have q : ∀ e : Expr, noStar e = true → (match e with | .Starred .. => true | _ => false) = false := fun e h => by
      cases e <;> first | rfl | (simp [noStar] at h)
    simp only [List.any_cons, List.any_nil, Bool.or_false]
    rw [q a sa, q b sb]
    rfl
  have hd : ([x, y] : List Str).eraseDups = [x, y] := by
    rw [List.eraseDups_cons]
    have : (([y] : List Str).filter fun b => !(b == x)) = [y] := by
      rw [List.filter_cons]
      have : (!(y == x)) = true := by simpa using fun z => hne z.symm
      rw [if_pos this]
      rfl
    rw [this]
    rfl
  unfold swappedStores
  simp only [hb, List.length_cons, List.length_nil]
  rw [if_neg (by decide), ]
  split
  · rename_i z
    exact absurd (hst.symm.trans z) Bool.false_ne_true
  · have hnames : ([Expr.Name x px, Expr.Name y py].filterMap fun
        | .Name id pos => if env.kindOf id == some .local && pos.line == (([Expr.Name x px, Expr.Name y py] : List Expr).head?.map (·.pos.line)).getD 0 then some id else none
        | _ => none) = [x, y] := by
      simp only [List.filterMap_cons, List.filterMap_nil, hx, hy]
      have e1 : (px.line == (([Expr.Name x px, Expr.Name y py] : List Expr).head?.map (·.pos.line)).getD 0) = true := by
        show (px.line == px.line) = true
        simp
      have e2 : (py.line == (([Expr.Name x px, Expr.Name y py] : List Expr).head?.map (·.pos.line)).getD 0) = true := hl
      rw [e1, e2]
      rfl
    split
    · rename_i z
      exfalso
      have z' : (([x, y] : List Str).length != 2 || ([x, y] : List Str).eraseDups.length != ([x, y] : List Str).length) = true := by
        rw [← hnames]
        exact z
      rw [hd] at z'
      simp at z'
    · rw [h1, h2]
      simp only [Bool.false_eq_true, if_false]
      show (pure (some _) : Sem _) = _
      rw [← hnames]
      rfl
theorem lc_parts (hE : ∀ {X : Cx} {k : Nat} {WW : WX} {sc : Scope} {a : Expr} {ca : Ex} {elts : List Expr} {kk : Nat} {tpos p pos : Pos}, XOk T G cl N sc X k → Gl X "enumerate" → X.mg "enumerate" = none → PE X a (rdE X.K WW (ev G cl ca)) → noStar a = true →
      PI X (.Tuple elts kk tpos) (.Call (.Name "enumerate" p) [a] [] pos) (rdM X.K WW (relI X.K) (evI G cl (.enum ca)))) {n : Nat} {WW : WX} (O : XOk T G cl N sc X k) (tk : Takes X WW) {elt : Expr} {gens : List Comprehension} {scope : Scope} {p : Pos} {c : Ex} (h : cStep T N (cE T N n) n sc (.ListComp elt gens scope p) = some c) :
    ∃ tg iter ifs it t cs ce, gens = [⟨tg, iter, ifs, 0⟩] ∧ c = .lc T.m t ((ownOf N scope.names).map (·.2)) it cs ce ∧ BlkOk X.N X.env.scope scope (ownOf N scope.names) ∧ PI X tg iter (rdM X.K WW (relI X.K) (evI G cl it)) ∧ (∀ i ∈ t.slots, i ∈ (ownOf N scope.names).map (·.2)) ∧
      (∀ (s : Shared) (H : Hp) (C : Addr) (cl : List (Str × Addr)) (fp : List Addr), PG (X.blk s H scope (compEnvC scope cl C X.env) fp) tg (rdG X.K t)) ∧ (∀ (s : Shared) (H : Hp) (C : Addr) (cl' : List (Str × Addr)) (fp : List Addr), PTs (X.blk s H scope (compEnvC scope cl' C X.env) fp) ifs (rdM X.K W0 relB (evC G cl cs))) ∧
      (∀ (s : Shared) (H : Hp) (C : Addr) (cl' : List (Str × Addr)) (fp : List Addr), PE (X.blk s H scope (compEnvC scope cl' C X.env) fp) elt (rdE X.K W0 (ev G cl ce))) ∧ ∀ x, foldedSetIterable iter X.env x = pure x := by
  have ih := s_E (T := T) (G := G) (cl := cl) (N := N) hE n
  unfold cStep at h
  split at h <;> try (rename_i hh; cases hh; done)
  all_goals first | (rename_i elt' tg iter ifs scope' pos' heq; cases heq) | (cases h; done) | skip
  · split at h
    · rename_i it t cs ce hit htg hcs hce
      split at h
      · rename_i hc
        simp only [Bool.and_eq_true, decide_eq_true_eq] at hc
        obtain ⟨hb, hsub, hl, htst⟩ := hc
        cases h
        have bok : BlkOk N sc scope (ownOf N scope.names) := blkOk_by hb
        obtain ⟨pi, hfs⟩ := s_it ih hE O tk hit
        have hown : ∀ i ∈ t.slots, i ∈ (ownOf N scope.names).map (·.2) := fun i hi => by
          have := List.all_eq_true.mp hsub i hi
          simpa using this
        refine ⟨tg, iter, ifs, it, t, cs, ce, rfl, rfl, O.blkOk bok, pi, hown, (fun s H C cls fp => s_tg n tg t htg (O.blk bok s H C cls fp)), (fun s H C cls fp => ?_), (fun s H C cls fp => (ih scope elt ce hce (O.blk bok s H C cls fp) L2.takes0).1), hfs⟩
        have OB := O.blk bok s H C cls fp
        cases ifs with
        | nil => cases hcs; exact z_c0
        | cons i1 r =>
          simp only [allSome] at hcs
          split at hcs
          · cases hcs
          · rename_i c1 h1
            split at hcs
            · cases hcs
            · rename_i cs0 h0
              cases hcs
              have : cs0 = [] := List.eq_nil_of_length_eq_zero (by simp at hl; exact List.length_eq_zero_iff.mpr hl)
              subst this
              have hr0 : r = [] := List.eq_nil_of_length_eq_zero (allSome_len h0)
              subst hr0
              simp only [List.all_cons, Bool.and_eq_true] at htst
              exact z_c1 ((ih scope i1 c1 h1 OB L2.takes0).2.1 htst.1)
      · cases h
    · cases h
theorem s_set (hE : ∀ {X : Cx} {k : Nat} {WW : WX} {sc : Scope} {a : Expr} {ca : Ex} {elts : List Expr} {kk : Nat} {tpos p pos : Pos}, XOk T G cl N sc X k → Gl X "enumerate" → X.mg "enumerate" = none → PE X a (rdE X.K WW (ev G cl ca)) → noStar a = true →
      PI X (.Tuple elts kk tpos) (.Call (.Name "enumerate" p) [a] [] pos) (rdM X.K WW (relI X.K) (evI G cl (.enum ca)))) {n : Nat} {WW : WX} (O : XOk T G cl N sc X k) (tk : Takes X WW) : ∀ {x : Str} {px pos : Pos} {e : Expr} {i : Nat} {c : Ex} {kd : NameKind}, isOther e = false → sc.names.lookup x = some kd → (kd = .local ∨ kd = .cell) → slot N x = some i → cE T N n sc e = some c → PS X (.Assign [.Name x px] e pos) (rdS X.K WW (ex G cl (.set i c))) := by
  have ih := s_E (T := T) (G := G) (cl := cl) (N := N) hE n
  have nd : X.N.Nodup := by rw [O.eN]; exact O.nd
  intro x px pos e i c kd ho e1 e2 hi hc
  obtain ⟨l1, l2⟩ := O.loc e1 e2
  have pa := (ih sc e c hc O tk).1
  have hi' : X.N[i]? = some x := by rw [O.eN]; exact slot_at hi
  have hl : (∃ a b c d, e = .ListComp a b c d) ∨ isComp e = false := by
    cases e <;> first | (left; exact ⟨_, _, _, _, rfl⟩) | (right; rfl) | (simp [isOther] at ho)
  have sw := sw_name (l := pos.line) (px := px) O e1 e2 hl
  cases hsw : swp sc x px e with
  | false =>
    rw [hsw] at sw
    exact z_set nd hi' l1 pa sw l2
  | true =>
    rw [hsw] at sw
    rcases hl with ⟨elt, gens, scope, p, rfl⟩ | hl
    · have hloc : X.env.scope.names.lookup x = some .local := by
        simp only [swp, Bool.and_eq_true, decide_eq_true_eq] at hsw
        exact (O.scp x _ hsw.1).2 (by decide)
      cases n with
      | zero => cases hc
      | succ n =>
        change some ((cStep T N (cE T N n) n sc (.ListComp elt gens scope p)).getD .bad) = some c at hc
        cases hst : cStep T N (cE T N n) n sc (.ListComp elt gens scope p) with
        | none =>
          rw [hst] at hc
          cases hc
          exact ⟨fun pins s σ H D I q => by
            obtain ⟨_, _, _, _, _, g⟩ := q
            exact g.elim⟩
        | some c0 =>
          rw [hst] at hc
          cases hc
          obtain ⟨tg, iter, ifs, it, t, cs, ce, rfl, rfl, bok, pi, hown, h1, h2, h3, hfs⟩ := lc_parts hE O tk hst
          exact z_setLc O.calm nd hi' hloc sw pi bok hown h1 h2 h3 hfs
    · cases e <;> first | (simp [isComp] at hl; done) | (simp [swp] at hsw; done)
theorem s_stm (hE : ∀ {X : Cx} {k : Nat} {WW : WX} {sc : Scope} {a : Expr} {ca : Ex} {elts : List Expr} {kk : Nat} {tpos p pos : Pos}, XOk T G cl N sc X k → Gl X "enumerate" → X.mg "enumerate" = none → PE X a (rdE X.K WW (ev G cl ca)) → noStar a = true →
      PI X (.Tuple elts kk tpos) (.Call (.Name "enumerate" p) [a] [] pos) (rdM X.K WW (relI X.K) (evI G cl (.enum ca)))) {n : Nat} {B : List Stmt → List Sm} {WW : WX} (O : XOk T G cl N sc X k) (tk : Takes X WW) (hB : ∀ ss, PSs X ss (rdS X.K WW (exs G cl (B ss)))) (st : Stmt) (c : Sm) (h : cStm T N (cE T N n) (cE T.mm N n) B n sc st = some c) : PS X st (rdS X.K WW (ex G cl c)) := by
  have ih := s_E (T := T) (G := G) (cl := cl) (N := N) hE n
  have nd : X.N.Nodup := by rw [O.eN]; exact O.nd
  have setx := @s_set T G cl N sc X k hE n WW O tk
  have sety := @s_set T.mm G cl N sc X k (fun O' => hE O'.um) n WW O.mm tk
  unfold cStm at h
  split at h
  · -- x = e
    rename_i x px e pos
    split at h
    · cases h
    · rename_i ho
      have ho' : isOther e = false := by simpa using ho
      cases hmut : T.muts.contains x with
      | true =>
        rw [hmut] at h
        simp only [if_true] at h
        split at h
        · rename_i i c e1 hi hc; cases h; exact sety ho' e1 (.inl rfl) hi hc
        · rename_i i c e1 hi hc; cases h; exact sety ho' e1 (.inr rfl) hi hc
        · cases h
      | false =>
        rw [hmut] at h
        simp only [Bool.false_eq_true, if_false] at h
        split at h
        · rename_i i c e1 hi hc; cases h; exact setx ho' e1 (.inl rfl) hi hc
        · rename_i i c e1 hi hc; cases h; exact setx ho' e1 (.inr rfl) hi hc
        · cases h
  · -- a, b = c, d
    rename_i ts kk p vs k2 p2 pos
    split at h
    · rename_i hs
      simp only [Bool.and_eq_true] at hs
      split at h
      · rename_i t c ht hc
        cases h
        have hg := s_tg n _ t ht O
        have he : PE X (.Tuple vs k2 p2) (rdE X.K WW (ev G cl c)) := by
          split at hc
          · exact (s_E (T := T.mm) (G := G) (cl := cl) (N := N) (fun O' => hE O'.um) n sc _ c hc O.mm tk).1
          · exact (ih sc _ c hc O tk).1
        refine z_unp he hg sw_tup (swaps_none O hs.2) rfl
      · cases h
    · split at h
      · rename_i x px y py a b _
        split at h
        · rename_i i j ca cb hi hj ha hb
          split at h
          · rename_i hc
            simp only [Bool.and_eq_true, decide_eq_true_eq, Bool.not_eq_true', decide_eq_false_iff_not] at hc
            obtain ⟨hx, hy, hl, hne, f1, f2, sa, sb⟩ := hc
            cases h
            have hX := (O.scp x _ hx).2 (by decide)
            have hY := (O.scp y _ hy).2 (by decide)
            have hbk : X.env.blockKind = .function := by unfold Env.blockKind; rw [O.kind]; rfl
            have hij : i ≠ j := fun z => by
              subst z
              exact hne (Option.some.inj ((slot_at hi).symm.trans (slot_at hj)))
            have ihm := s_E (T := T.mm) (G := G) (cl := cl) (N := N) (fun O' => hE O'.um) n
            have pe1 : PE X a (rdE X.K WW (ev G cl ca)) := by
              split at ha
              · exact (ihm sc a ca ha O.mm tk).1
              · exact (ih sc a ca ha O tk).1
            have pe2 : PE X b (rdE X.K WW (ev G cl cb)) := by
              split at hb
              · exact (ihm sc b cb hb O.mm tk).1
              · exact (ih sc b cb hb O tk).1
            have pa := z_cons pe1 (z_cons pe2 z_nil (star_cons sb)) (star_cons sa)
            exact z_par (fun hp => ps_par O.calm nd (by rw [O.eN]; exact slot_at hi) (by rw [O.eN]; exact slot_at hj) hij hX hY hp (swaps_two hbk hX hY hl hne f1 f2 sa sb) sw_tup) pa
          · cases h
        · cases h
      · cases h
  · -- a, b = e
    rename_i ts kk p e pos hnt
    split at h
    · rename_i hs
      split at h
      · rename_i t c ht hc
        cases h
        have hg := s_tg n _ t ht O
        exact z_unp (ih sc _ c hc O tk).1 hg sw_tup (swaps_other (fun a b c z => hnt a b c z)) rfl
      · unfold cUnpS at h
        split at h
        · rename_i o i p1 x px _
          split at h
          · cases h
          · rename_i hsl
            split at h
            · rename_i co ci c j ho hi hc hj hl
              cases h
              obtain ⟨l1, l2⟩ := O.loc hl (.inl rfl)
              refine z_unpS O.calm nd (by rw [O.eN]; exact slot_at hj) l1 l2 (ih sc e c hc O tk).1 (ih sc o co ho O tk).1 (ih sc i ci hi O tk).1 sw_tup (swaps_other (fun a b c z => hnt a b c z)) (fun v => ?_)
              cases i <;> first | rfl | (simp [isSlice] at hsl)
            · cases h
        · cases h
    · cases h
  · -- o.f = e
    rename_i o f p e pos
    split at h
    · cases h
    · rename_i hcomp
      split at h
      · rename_i co c ho hc
        cases h
        exact z_fldS (fun C hC => O.facts.fld C f hC) (ih sc e c hc O tk).1 (ih sc o co ho O tk).1 (sw_no (by simpa using hcomp))
      · cases h
  · -- o[i] = e
    rename_i o i p e pos
    split at h
    · cases h
    · rename_i hcomp
      simp only [Bool.or_eq_true, not_or, Bool.not_eq_true] at hcomp
      split at h
      · rename_i co ci c ho hi hc
        cases h
        refine z_sub (ih sc e c hc O tk).1 (ih sc o co ho O tk).1 (ih sc i ci hi O tk).1 (show swapsWith e (some (.Subscript o i p)) pos.line X.env = pure false from sw_no hcomp.2) (by unfold swappedStores; cases e <;> rfl) (fun v => ?_)
        cases i <;> first | rfl | (simp [isSlice] at hcomp)
      · cases h
  · -- x += e
    rename_i x p op e pos
    have augx : ∀ {i : Nat} {c : Ex} {kd : NameKind}, sc.names.lookup x = some kd → (kd = .local ∨ kd = .cell) → slot N x = some i → cE T N n sc e = some c → (op = .Add → PS X (.AugAssign (.Name x p) op e pos) (rdS X.K WW (ex G cl (.aug i false c)))) ∧ (op = .Sub → PS X (.AugAssign (.Name x p) op e pos) (rdS X.K WW (ex G cl (.aug i true c)))) := fun e1 e2 hi hc => by
      obtain ⟨l1, l2⟩ := O.loc e1 e2
      have pa := (ih sc e _ hc O tk).1
      exact ⟨fun z => by subst z; exact z_aug ip_add nd (by rw [O.eN]; exact slot_at hi) l1 pa l2, fun z => by subst z; exact z_aug ip_sub nd (by rw [O.eN]; exact slot_at hi) l1 pa l2⟩
    split at h
    · rename_i i c e1 hi hc
      split at h
      · cases h; exact (augx e1 (.inl rfl) hi hc).1 rfl
      · cases h; exact (augx e1 (.inl rfl) hi hc).2 rfl
      · cases h
    · rename_i i c e1 hi hc
      split at h
      · cases h; exact (augx e1 (.inr rfl) hi hc).1 rfl
      · cases h; exact (augx e1 (.inr rfl) hi hc).2 rfl
      · cases h
    · cases h
  · -- e
    rename_i e pos
    split at h
    · cases h
    · rename_i hcomp
      obtain ⟨c, hc, rfl⟩ := Option.map_eq_some_iff.mp h
      exact z_exp (ih sc e c hc O tk).1 (sw_no (by simpa using hcomp))
  · rename_i e pos
    obtain ⟨c, hc, rfl⟩ := Option.map_eq_some_iff.mp h
    exact z_ret (ih sc e c hc O tk).1
  · cases h; exact z_retn
  · cases h; exact z_pass
  · cases h; exact z_brk
  · cases h; exact z_cont
  · rename_i c0 a b pos
    split at h
    · rename_i ht
      obtain ⟨c, hc, rfl⟩ := Option.map_eq_some_iff.mp h
      exact z_if ((ih sc c0 c hc O tk).2.1 ht) (hB a) (hB b)
    · cases h
  · rename_i c0 b pos
    split at h
    · rename_i ht
      obtain ⟨c, hc, rfl⟩ := Option.map_eq_some_iff.mp h
      exact z_whl O.own ((ih sc c0 c hc O tk).2.1 ht) (hB b)
    · cases h
  · rename_i tg iter b pos
    split at h
    · rename_i it t hit ht
      cases h
      obtain ⟨pi, hfs⟩ := s_it ih hE O tk hit
      exact z_for O.own O.calm pi (s_tg n tg t ht O) (hB b) hfs
    · cases h
  · cases h
theorem s_S (hE : ∀ {X : Cx} {k : Nat} {WW : WX} {sc : Scope} {a : Expr} {ca : Ex} {elts : List Expr} {kk : Nat} {tpos p pos : Pos}, XOk T G cl N sc X k → Gl X "enumerate" → X.mg "enumerate" = none → PE X a (rdE X.K WW (ev G cl ca)) → noStar a = true →
      PI X (.Tuple elts kk tpos) (.Call (.Name "enumerate" p) [a] [] pos) (rdM X.K WW (relI X.K) (evI G cl (.enum ca)))) : ∀ (n : Nat) (ss : List Stmt) {WW : WX} (O : XOk T G cl N sc X k) (tk : Takes X WW), PSs X ss (rdS X.K WW (exs G cl (cS T N n sc ss)))
  | 0, ss, WW, O, tk => ⟨fun pins s σ H D I q => by
      obtain ⟨_, _, _, _, _, g⟩ := q
      exact g.elim⟩
  | n + 1, [], WW, O, tk => z_ssnil
  | n + 1, s :: ss, WW, O, tk => by
    refine z_sscons ?_ (s_S hE n ss O tk)
    cases hc : cStm T N (cE T N n) (cE T.mm N n) (cS T N n sc) n sc s with
    | none => exact z_never
    | some c => exact s_stm hE O tk (fun ss => s_S hE n ss O tk) s c hc
end
end Zv

set_option maxRecDepth 100000
set_option maxHeartbeats 8000000
/-! Ev12: defs. -/
namespace Zv
open PySem PySem.Spec PyProof.Rows L2
theorem zip_look : ∀ {ps : List Str} {us : List Value}, ps.Nodup → us.length = ps.length → (ps.filterMap fun n => ((ps.zip us).lookup n).map (n, ·)) = ps.zip us ∧ ∀ n ∈ ps, ((ps.zip us).lookup n).isNone = false
  | [], us, _, h => by
    cases us with
    | nil => exact ⟨rfl, fun n hn => by cases hn⟩
    | cons _ _ => simp at h
  | p :: ps, [], _, h => by simp at h
  | p :: ps, u :: us, nd, h => by
    obtain ⟨h1, h2⟩ := zip_look (ps := ps) (us := us) (List.nodup_cons.mp nd).2 (by simpa using h)
    have hp : p ∉ ps := (List.nodup_cons.mp nd).1
    refine ⟨?_, fun n hn => ?_⟩
    · rw [List.filterMap_cons]
      simp only [List.zip_cons_cons, List.lookup_cons_self, Option.map_some]
      congr 1
      rw [← h1]
      have : ∀ (qs : List Str), p ∉ qs → (qs.filterMap fun n => (((p, u) :: ps.zip us).lookup n).map (n, ·)) = qs.filterMap fun n => ((ps.zip us).lookup n).map (n, ·) := by
        intro qs
        induction qs with
        | nil => intro _; rfl
        | cons q qs ih =>
          intro hq
          simp only [List.mem_cons, not_or] at hq
          rw [List.filterMap_cons, List.filterMap_cons, ih hq.2]
          have : (q == p) = false := by simpa using fun z => hq.1 z.symm
          rw [List.lookup_cons, this]
      rw [h1]
      rw [this ps hp, h1]
    · by_cases hn' : n = p
      · subst hn'
        simp [List.zip_cons_cons]
      · have hm : n ∈ ps := by
          rcases List.mem_cons.mp hn with z | z
          · exact absurd z hn'
          · exact z
        have : (n == p) = false := by simpa using hn'
        rw [List.zip_cons_cons, List.lookup_cons, this]
        exact h2 n hm
theorem filter_none {ps : List Str} {f : Str → Bool} (h : ∀ n ∈ ps, f n = false) : ps.filter f = [] := by
  rw [List.filter_eq_nil_iff]
  intro a ha
  rw [h a ha]
  decide
theorem bind_plain {fd : FuncData} {as : List Arg} (hp : fd.params = ⟨[], as, none, [], [], none, []⟩) (hd : fd.defaults = .none) (nd : (as.map (·.arg)).Nodup) (us : List Value) (hl : us.length = (as.map (·.arg)).length) : bindArgs fd ⟨us, []⟩ = pure ((as.map (·.arg)).zip us) := by
  obtain ⟨h1, h2⟩ := zip_look nd hl
  unfold bindArgs
  simp only [hp, hd, List.map_nil, List.nil_append, List.append_nil]
  simp only [List.forIn_nil]
  rw [pure_bind]
  rw [show seqItems? Value.none = pure none from rfl, pure_bind]
  simp only [Option.getD, List.drop_nil, List.length_nil, Nat.sub_zero, Nat.zero_sub, List.take_length, List.zip_nil_right, List.forIn_nil, pure_bind, List.drop_length]
  rw [if_neg (by simp [hl]), filter_none h2, if_neg (by simp), if_neg (by simp), h1]
theorem zip_app : ∀ {ps : List Str} {us rest : List Value}, us.length = ps.length → ps.zip (us ++ rest) = ps.zip us
  | [], us, rest, h => by simp
  | p :: ps, [], rest, h => by simp at h
  | p :: ps, u :: us, rest, h => by
    rw [List.cons_append, List.zip_cons_cons, List.zip_cons_cons, zip_app (by simpa using h)]
theorem bind_star {fd : FuncData} {as : List Arg} {av : Arg} (hp : fd.params = ⟨[], as, some av, [], [], none, []⟩) (hd : fd.defaults = .none) (nd : (as.map (·.arg)).Nodup) (us rest : List Value) (hl : us.length = (as.map (·.arg)).length) : bindArgs fd ⟨us ++ rest, []⟩ = (newTuple rest >>= fun t => pure ((as.map (·.arg)).zip us ++ [(av.arg, t)])) := by
  obtain ⟨h1, h2⟩ := zip_look nd hl
  unfold bindArgs
  simp only [hp, hd, List.map_nil, List.nil_append, List.append_nil]
  simp only [List.forIn_nil]
  rw [pure_bind]
  rw [show seqItems? Value.none = pure none from rfl, pure_bind]
  simp only [Option.getD, List.drop_nil, List.length_nil, Nat.sub_zero, Nat.zero_sub, List.take_length, List.zip_nil_right, List.forIn_nil, pure_bind, List.drop_length, zip_app hl]
  rw [if_neg (by simp), filter_none h2, if_neg (by simp), if_neg (by simp), h1]
  have : (us ++ rest).drop (as.map (·.arg)).length = rest := by rw [← hl, List.drop_left]
  rw [this]
/-! ### keywords -/
def free2 : List (Str × Value) → List (Str × Value) → Prop
  | _, [] => True
  | s, q :: r => s.lookup q.1 = none ∧ free2 (s ++ [q]) r
theorem kw_loop {ρ : Type} {ps : List Str} {e : ρ} (mk : ρ → List (Str × Value) → σ) (f : Str × Value → σ → Sem (ForInStep σ)) (hf : ∀ q s, ps.contains q.1 = true → s.lookup q.1 = none → f q (mk e s) = pure (.yield (mk e (s ++ [q])))) :
    ∀ (kw s : List (Str × Value)), (∀ q ∈ kw, ps.contains q.1 = true) → free2 s kw → forIn kw (mk e s) f = pure (mk e (s ++ kw))
  | [], s, _, _ => by rw [List.append_nil]; rfl
  | q :: r, s, h1, h2 => by
    rw [List.forIn_cons, hf q s (h1 q List.mem_cons_self) h2.1, pure_bind]
    have := kw_loop mk f hf r (s ++ [q]) (fun z hz => h1 z (List.mem_cons_of_mem _ hz)) h2.2
    rw [List.append_assoc, List.singleton_append] at this
    exact this
theorem bind_kw {fd : FuncData} {as : List Arg} (hp : fd.params = ⟨[], as, none, [], [], none, []⟩) (hd : fd.defaults = .none) (us : List Value) (kw : List (Str × Value)) (hl : us.length ≤ (as.map (·.arg)).length)
    (h1 : ∀ q ∈ kw, (as.map (·.arg)).contains q.1 = true) (h2 : free2 ((as.map (·.arg)).zip us) kw) (h3 : ∀ n ∈ as.map (·.arg), (((as.map (·.arg)).zip us ++ kw).lookup n).isNone = false) :
    bindArgs fd ⟨us, kw⟩ = pure ((as.map (·.arg)).filterMap fun n => (((as.map (·.arg)).zip us ++ kw).lookup n).map (n, ·)) := by
  unfold bindArgs
  simp only [hp, hd, List.map_nil, List.nil_append, List.append_nil]
  rw [kw_loop (ps := as.map (·.arg)) (e := ([] : List (Str × Value))) (fun e s => (s, e)) _ (fun q s c1 c2 => ?_) kw _ h1 h2]
  · rw [pure_bind]
    rw [show seqItems? Value.none = pure none from rfl, pure_bind]
    simp only [Option.getD, List.drop_nil, List.length_nil, Nat.sub_zero, Nat.zero_sub, List.take_length, List.zip_nil_right, List.forIn_nil, pure_bind, List.drop_length]
    have hl' : ¬ (us.length > (as.map (·.arg)).length) := Nat.not_lt.mpr hl
    rw [if_neg (by simp only [Bool.and_eq_true, decide_eq_true_eq, not_and]; exact fun z => absurd z hl'), filter_none h3, if_neg (by simp), if_neg (by simp)]
  · simp only [c1, Bool.true_or, if_true, c2, Option.isSome_none, Bool.false_eq_true, if_false]
/-! ### the order of the parameters -/
theorem look_none {α : Type} : ∀ {l : List (Str × α)} {k : Str}, k ∉ l.map (·.1) → l.lookup k = none
  | [], _, _ => rfl
  | (a, b) :: l, k, h => by
    simp only [List.map_cons, List.mem_cons, not_or] at h
    rw [List.lookup_cons, show (k == a) = false from by simpa using h.1]
    exact look_none h.2
theorem look_app {α : Type} : ∀ {l r : List (Str × α)} {k : Str}, (l ++ r).lookup k = (l.lookup k).or (r.lookup k)
  | [], r, k => by simp
  | (a, b) :: l, r, k => by
    rw [List.cons_append, List.lookup_cons, List.lookup_cons]
    cases e : k == a with
    | true => simp
    | false => exact look_app
theorem look_zip {α : Type} : ∀ {ks : List Str} {ws : List α} {i : Nat} {k : Str}, ks.Nodup → ks[i]? = some k → (ks.zip ws).lookup k = ws[i]?
  | [], _, _, _, _, h => by simp at h
  | a :: ks, [], i, k, nd, h => by simp
  | a :: ks, w :: ws, 0, k, nd, h => by
    simp at h; subst h; simp
  | a :: ks, w :: ws, i + 1, k, nd, h => by
    have hm : k ∈ ks := List.mem_of_getElem? (by simpa using h)
    have hne : k ≠ a := fun z => (List.nodup_cons.mp nd).1 (z ▸ hm)
    rw [List.zip_cons_cons, List.lookup_cons, show (k == a) = false from by simpa using hne]
    simpa using look_zip (ws := ws) (i := i) (List.nodup_cons.mp nd).2 (by simpa using h)
theorem free2_of : ∀ {kw s : List (Str × Value)}, (kw.map (·.1)).Nodup → (∀ q ∈ kw, q.1 ∉ s.map (·.1)) → free2 s kw
  | [], _, _, _ => trivial
  | q :: r, s, nd, h => by
    refine ⟨look_none (h q List.mem_cons_self), free2_of (List.nodup_cons.mp nd).2 fun z hz => ?_⟩
    simp only [List.map_append, List.map_cons, List.map_nil, List.mem_append, List.mem_singleton, not_or]
    refine ⟨h z (List.mem_cons_of_mem _ hz), fun e => (List.nodup_cons.mp nd).1 ?_⟩
    have : z.1 ∈ r.map (·.1) := List.mem_map_of_mem hz
    rw [e] at this
    exact this
theorem permL_W {ws : List W} : ∀ {is : List Nat}, permL ws is = permW ws is
  | [] => rfl
  | i :: is => by
    unfold permL permW
    rw [permL_W (is := is)]
    cases ws[i]? <;> cases permW ws is <;> rfl
theorem permL_get {α : Type} {ws : List α} : ∀ {is : List Nat} {us : List α}, permL ws is = some us → us.length = is.length ∧ ∀ (j i : Nat), is[j]? = some i → ws[i]? = us[j]?
  | [], us, h => by cases h; exact ⟨rfl, fun j i z => by simp at z⟩
  | i :: is, us, h => by
    unfold permL at h
    split at h
    · rename_i w r h1 h2
      cases h
      obtain ⟨l, g⟩ := permL_get h2
      refine ⟨by simp [l], fun j i' z => ?_⟩
      cases j with
      | zero => simp at z; subst z; simpa using h1
      | succ j => simpa using g j i' (by simpa using z)
    · cases h
theorem fm_zip {L : Str → Option Value} : ∀ {ps : List Str} {us : List Value}, us.length = ps.length → (∀ (i : Nat) (p : Str), ps[i]? = some p → L p = us[i]?) → (ps.filterMap fun n => (L n).map (n, ·)) = ps.zip us
  | [], us, hl, _ => by simp
  | p :: ps, [], hl, _ => by simp at hl
  | p :: ps, u :: us, hl, h => by
    have h0 := h 0 p (by simp)
    rw [List.filterMap_cons, h0]
    simp only [List.getElem?_cons_zero, Option.map_some, List.zip_cons_cons]
    rw [fm_zip (us := us) (by simpa using hl) fun i q hq => by simpa using h (i + 1) q (by simpa using hq)]
theorem zip_fst : ∀ {ps : List Str} {us : List Value}, (ps.zip us).map (·.1) = ps.take us.length
  | [], us => by simp
  | p :: ps, [] => by simp
  | p :: ps, u :: us => by simp [zip_fst (ps := ps) (us := us)]
theorem bind_perm {fd : FuncData} {as : List Arg} (hp : fd.params = ⟨[], as, none, [], [], none, []⟩) (hd : fd.defaults = .none) (nd : (as.map (·.arg)).Nodup) {n : Nat} {ks : List Str} {us0 ws us : List Value} (ok : kwOk (as.map (·.arg)) n ks = true) (h0 : us0.length = n) (hw : ws.length = ks.length) (hu : permL (us0 ++ ws) (permOf (as.map (·.arg)) n ks) = some us) :
    us.length = (as.map (·.arg)).length ∧ bindArgs fd ⟨us0, ks.zip ws⟩ = pure ((as.map (·.arg)).zip us) := by
  generalize hps : as.map (·.arg) = ps at *
  simp only [kwOk, Bool.and_eq_true, decide_eq_true_eq, List.all_eq_true, List.contains_iff_mem] at ok
  obtain ⟨ok1, ok2, ok3, ok4⟩ := ok
  obtain ⟨l1, g1⟩ := permL_get hu
  have lp : (permOf ps n ks).length = ps.length := by
    unfold permOf
    simp
    omega
  rw [lp] at l1
  have mz : ∀ {x : Str}, x ∈ (ps.zip us0).map (·.1) → x ∈ ps.take n := fun {x} hx => by
    rw [zip_fst, h0] at hx
    exact hx
  have dj : ∀ k ∈ ks, k ∉ ps.take n := fun k hk ht => by
    have hd := ok3 k hk
    have nd2 := nd
    rw [← List.take_append_drop n ps, List.nodup_append] at nd2
    exact nd2.2.2 k ht k hd rfl
  have key : ∀ (i : Nat) (p : Str), ps[i]? = some p → (ps.zip us0 ++ ks.zip ws).lookup p = us[i]? := fun i p hi => by
    have hil : i < ps.length := (List.getElem?_eq_some_iff.mp hi).1
    rw [look_app, look_zip (ws := us0) nd hi]
    by_cases hn : i < n
    · have e1 : (permOf ps n ks)[i]? = some i := by
        unfold permOf
        rw [List.getElem?_append_left (by simpa using hn), List.getElem?_range hn]
      rw [← g1 i i e1, List.getElem?_append_left (by omega), List.getElem?_eq_getElem (by omega)]
      rfl
    · have hpd : p ∈ ps.drop n := by
        refine List.mem_of_getElem? (i := i - n) ?_
        rw [List.getElem?_drop, show n + (i - n) = i by omega]
        exact hi
      have hk := ok4 p hpd
      have hj : ks.idxOf p < ks.length := List.idxOf_lt_length_of_mem hk
      have e1 : (permOf ps n ks)[i]? = some (n + ks.idxOf p) := by
        unfold permOf
        rw [List.getElem?_append_right (by simp; omega), List.getElem?_map, List.length_range, List.getElem?_drop, show n + (i - n) = i by omega, hi]
        rfl
      rw [← g1 i _ e1, List.getElem?_append_right (by omega), h0, Nat.add_sub_cancel_left, List.getElem?_eq_none (by omega), Option.none_or]
      refine look_zip ok2 ?_
      rw [List.getElem?_eq_getElem hj, List.getElem_idxOf hj]
  refine ⟨l1, ?_⟩
  have km : (ks.zip ws).map (·.1) = ks := by rw [List.map_fst_zip (by omega)]
  have inks : ∀ q ∈ ks.zip ws, q.1 ∈ ks := fun q hq => by
    rw [← km]
    exact List.mem_map_of_mem hq
  subst hps
  rw [bind_kw hp hd us0 (ks.zip ws) (by omega) (fun q hq => ?_) (free2_of (by rw [km]; exact ok2) fun q hq hz => dj _ (inks q hq) (mz hz)) (fun m hm => ?_), fm_zip l1 key]
  · have := ok3 _ (inks q hq)
    simpa using List.mem_of_mem_drop this
  · obtain ⟨i, hi, e⟩ := List.getElem_of_mem hm
    rw [key i m (by rw [List.getElem?_eq_getElem hi, e]), List.getElem?_eq_getElem (by omega)]
    rfl
/-! ### a def of the text -/
structure DefZ where
  d : He.DefD
  N : List Str
  m : Bool := false
  muts : List Str := []
  /-- a static method -/
  st : Bool := false
abbrev DefZ.tab (z : DefZ) (T : Tab) : Tab := T.with z.m z.muts
def psOf (a : Arguments) : List Str := a.args.map (·.arg)
def starOf (a : Arguments) : Bool := a.vararg.isSome
def vaOf (a : Arguments) : List Str := match a.vararg with
  | some x => [x.arg]
  | none => []
/-- parameters of the plain kinds: positional, and perhaps a star -/
def parB (a : Arguments) : Bool := a.posonlyargs.isEmpty && (a.kwonlyargs.isEmpty && (a.kw_defaults.isEmpty && (a.kwarg.isNone && (a.defaults.isEmpty && decide ((psOf a).Nodup)))))
def fsB (N ps : List Str) (sc : Scope) : Bool := decide (sc.kind = .function) && (!sc.isCoroutine && (!sc.isGenerator && (decide N.Nodup && (decide (N.take ps.length = ps) &&
  ((ps.all fun x => decide (sc.names.lookup x = some .local) || decide (sc.names.lookup x = some .cell)) && sc.names.all fun y => !decide (y.2 = .free))))))
theorem fsB_ok {N ps : List Str} {sc : Scope} (h : fsB N ps sc = true) : FnScope N ps sc := by
  simp only [fsB, Bool.and_eq_true, decide_eq_true_eq, Bool.not_eq_true', List.all_eq_true, Bool.or_eq_true, decide_eq_false_iff_not] at h
  obtain ⟨h1, h2, h3, h4, h5, h6, h7⟩ := h
  exact ⟨h1, h2, h3, h4, h5, h6, h7⟩
def cDef (T : Tab) (n : Nat) (z : DefZ) : FnC := { np := (psOf z.d.params).length, star := starOf z.d.params, ns := z.N.length, body := cS (z.tab T) z.N n z.d.scope z.d.body }
def okDef (z : DefZ) : Bool := parB z.d.params && (fsB z.N (psOf z.d.params ++ vaOf z.d.params) z.d.scope && (z.d.dfl.isEmpty && z.d.kwd.isEmpty))
theorem args_of {a : Arguments} (h : parB a = true) : a = ⟨[], a.args, a.vararg, [], [], none, []⟩ ∧ (psOf a).Nodup := by
  simp only [parB, Bool.and_eq_true, decide_eq_true_eq, List.isEmpty_iff, Option.isNone_iff_eq_none] at h
  obtain ⟨h1, h2, h3, h4, h5, h6⟩ := h
  refine ⟨?_, h6⟩
  cases a
  simp only at h1 h2 h3 h4 h5
  subst h1 h2 h3 h4 h5
  rfl
section
variable {T : Tab} {G : Prg} {cl : Cl} {P : Program} {w : World} {K : PySem.W.Frag} {mg : Str → Option Value} {base : Heap} {k : Nat}
theorem start_sim {ad : Ad} {H : Hp} {N : List Str} {ws : List W} {vs : List V} (r : RVs K ad H ws vs) : SimS K ad H (startE N.length ws) (L2.start N vs) := by
  have hl := r.length
  refine ⟨by simp [startE, L2.start, hl], fun i x e => ?_⟩
  unfold startE at e
  unfold L2.start
  by_cases hi : i < ws.length
  · rw [List.getElem?_append_left (by simpa using hi), List.getElem?_map, List.getElem?_eq_getElem hi] at e
    simp only [Option.map_some, Option.some.injEq] at e
    obtain ⟨v, h1, h2⟩ := r.get (List.getElem?_eq_getElem hi)
    refine ⟨v, ?_, by rw [← e]; exact h2⟩
    rw [List.getElem?_append_left (by simp [← hl]; exact hi), List.getElem?_map, h1]
    rfl
  · rw [List.getElem?_append_right (by simpa using hi)] at e
    have := List.getElem?_replicate (a := (none : Option W)) (n := N.length - ws.length) (i := i - (ws.map some).length)
    rw [this] at e
    split at e
    · cases e
    · cases e
theorem fin_good {ad : Ad} {H : Hp} {r : RS} {Q : VK} {E : XK} (g : Good K (rV K) ad H (fin r) Q E) : GoodS K (fun cls d _ H' => E cls d H') ad H r { nx := fun _ H' => Q .non H', rt := Q } := by
  cases r with
  | stuck => exact g
  | er x env st => exact fun ad' H' σ' cls d x S s r => g ad' H' cls d x S r
  | fl f st =>
    cases f with
    | nx env => exact fun ad' H' σ' x S s => g ad' H' .non x S rfl
    | rt w => exact g
    | bk env => exact g.elim
    | ct env => exact g.elim
/-- a def, its callees known -/
theorem def_ok (hE : ∀ {X : Cx} {k : Nat} {WW : WX} {N : List Str} {sc : Scope} {a : Expr} {ca : Ex} {elts : List Expr} {kk : Nat} {tpos p pos : Pos}, XOk T G cl N sc X k → Gl X "enumerate" → X.mg "enumerate" = none → PE X a (rdE X.K WW (ev G cl ca)) → noStar a = true →
      PI X (.Tuple elts kk tpos) (.Call (.Name "enumerate" p) [a] [] pos) (rdM X.K WW (relI X.K) (evI G cl (.enum ca)))) {n : Nat} {z : DefZ} {f : Addr} {fd : FuncData} (F : FunD K z.d.name z.d.qual z.d.params z.d.body z.d.scope (z.d.dvs K) (z.d.kws K) f fd) (ok : okDef z = true) (facts : Facts T G cl P w K mg base k) {fc : FnC} (hfc : fc = cDef T n z) :
    FnG P w K mg base (L2.CX P w) (k + 8) f (psOf z.d.params, starOf z.d.params) (fun vs H Q E => ∃ ad st ws, SimH K ad st H ∧ RVs K ad H ws vs ∧ Good K (rV K) ad H (if fc.star then (if fc.np ≤ ws.length ∧ ws.length ≤ szL then fin (exs G cl fc.body (startE fc.ns (ws.take fc.np ++ [.tup (ws.drop fc.np)])) st) else .stuck) else if ws.length = fc.np then fin (exs G cl fc.body (startE fc.ns ws) st) else .stuck) Q E) := by
  subst hfc
  simp only [okDef, Bool.and_eq_true, List.isEmpty_iff] at ok
  obtain ⟨hp, hs, hd, hk⟩ := ok
  obtain ⟨ha, nd⟩ := args_of hp
  obtain ⟨oc, od, dV, kV, doc, pm, an, cdv, ct, osl, rfl, lk, hcd, hD, hK⟩ := F.ex
  have hdv : dV = .none := by
    rcases hD with ⟨_, q⟩ | ⟨q, _⟩
    · exact q
    · exact absurd (by show z.d.dfl.map _ = []; rw [hd]; rfl) q
  subst hdv
  have S := fsB_ok hs
  -- the body, whatever its entry
  have body : ∀ (A : Around) (outer : List Env) (s : Shared) (H : Hp) (E : XK), Rm (k + 7) (A.deeper (envOfC z.d.qual z.d.scope s.heap.objs.size f cdv)) →
      PSs (cxOf (L2.CX P w) P w K mg base z.N z.d.qual z.d.scope f cdv A outer s H E) z.d.body (rdS K (fun cls d _ H' => E cls d H') (exs G cl (cS (z.tab T) z.N n z.d.scope z.d.body))) := by
    intro A outer s H E hr
    have O : XOk (z.tab T) G cl z.N z.d.scope (cxOf (L2.CX P w) P w K mg base z.N z.d.qual z.d.scope f cdv A outer s H E) k :=
      { eN := rfl, nd := S.nd, calm := rfl, room := hr, scp := fun x kd e => ⟨fun z => .inl (by rw [← z]; exact e), fun _ => e⟩, kind := S.kind, cell := fun _ _ => rfl, own := passes_of rfl, facts := facts.with }
    exact s_S (fun O' => hE O'.unwith) n z.d.body O (takes_of rfl rfl rfl rfl)
  intro A outer s H args us vs Q E hr e0 hput r hh
  obtain ⟨ad, st, ws, Sm, rw_, g⟩ := hh
  by_cases hv : starOf z.d.params = true
  · -- def f(a, .., *v)
    obtain ⟨av, hav⟩ : ∃ av, z.d.params.vararg = some av := Option.isSome_iff_exists.mp hv
    rw [hav] at ha
    have hva : vaOf z.d.params = [av.arg] := by unfold vaOf; rw [hav]
    rw [hva] at S
    have hst : (cDef T n z).star = true := hv
    rw [hst] at g
    simp only [if_true] at g
    rcases hput with rfl | ⟨hno, _⟩
    rotate_left
    · rw [show (psOf z.d.params, starOf z.d.params).2 = true from hv] at hno; cases hno
    split at g
    rotate_left
    · exact g.elim
    rename_i hl
    have hlen := rw_.length
    have hl1 : (psOf z.d.params).length ≤ ws.length := hl.1
    have hz : (vs.drop (psOf z.d.params).length).length ≤ sizeLine := by
      rw [List.length_drop, ← hlen]
      have := szL_le
      omega
    rw [← List.take_append_drop (psOf z.d.params).length vs] at r
    obtain ⟨u1, u2, rfl, r1, r2⟩ := StX.vals_split r
    have lt : (vs.take (psOf z.d.params).length).length = (psOf z.d.params).length := by
      rw [List.length_take, ← hlen]
      exact Nat.min_eq_left hl1
    have lu : u1.length = (psOf z.d.params).length := r1.length.symm.trans lt
    have fr : H s.heap.objs.size = Option.none := e0.hok.fresh (Nat.le_refl _)
    refine StX.run_bnd lk hcd S hr.toRoom e0 (G := fun xs H2 => ∃ q, H q = Option.none ∧ xs = vs.take (psOf z.d.params).length ++ [V.ref q] ∧ H2 = upd H q (.tup (vs.drop (psOf z.d.params).length))) (fun A2 Ex2 Q2 hq => ?_) fun s2 H2 xs ⟨q, hn, ex, eH⟩ hr2 => ?_
    · rw [bind_star ha rfl nd u1 u2 lu]
      refine wpAny_bind (wpAny_newTuple (wpAny_pure ?_) (by rw [← r2.length]; exact hz))
      have ob : ObjOk P w (upd H s.heap.objs.size (.tup (vs.drop (psOf z.d.params).length))) (s.heap.push ({ cls := .type "tuple", data := .seq u2.toArray } : Obj)) s.heap.objs.size (.tup (vs.drop (psOf z.d.params).length)) :=
        ⟨hz, u2, r2, ⟨_, Heap.get?_push_size _ rfl, rfl, _, rfl⟩⟩
      have ul := StX.un_laid (fs := frs outer) (s := s) (o := ({ cls := .type "tuple", data := .seq u2.toArray } : Obj)) (u := .tup (vs.drop (psOf z.d.params).length)) fr
      have fin2 := hq _ _ (vs.take (psOf z.d.params).length ++ [V.ref s.heap.objs.size]) (u1 ++ [Value.ref s.heap.objs.size]) (StX.env0_laid e0 ob) ul rfl
        (fun e s3 => StX.cxUp outer s H _ _ E e s3 ul (fun b o q => Heap.get?_push_of_some _ q) rfl) (r1.append (.cons rfl .nil)) (by rw [List.length_append, List.length_append, lt] <;> rfl) ⟨_, fr, rfl, rfl⟩
      rw [List.zip_append lu.symm] at fin2
      exact fin2
    · subst ex eH
      have g2 : Good K (rV K) ad H (fin (exs G cl (cS (z.tab T) z.N n z.d.scope z.d.body) (startE z.N.length (ws.take (psOf z.d.params).length ++ [W.tup (ws.drop (psOf z.d.params).length)])) st)) Q E := g
      refine ⟨_, body A outer s2 _ E ⟨hr2, hr.gd⟩, ad, st, _, Sm.side hn, start_sim ?_, fin_good (Good.ext (Ext.side hn) g2)⟩
      refine ((rw_.take _).ext Sm (Ext.side hn)).append (RVs.one ?_)
      exact ⟨q, _, rfl, SqT.of upd_same, (rw_.drop _).ext Sm (Ext.side hn)⟩
  · -- def f(a, ..)
    have hav : z.d.params.vararg = none := by
      cases h : z.d.params.vararg with
      | none => rfl
      | some x => exact absurd (by unfold starOf; rw [h]; rfl) hv
    rw [hav] at ha
    have hva : vaOf z.d.params = [] := by unfold vaOf; rw [hav]
    rw [hva, List.append_nil] at S
    have hst : (cDef T n z).star = false := by
      show starOf z.d.params = false
      simpa using hv
    rw [hst] at g
    simp only [Bool.false_eq_true, if_false] at g
    split at g
    rotate_left
    · exact g.elim
    rename_i hl
    have lv : vs.length = (psOf z.d.params).length := by rw [← rw_.length]; exact hl
    have hb : bindArgs (PySem.W.fnOf z.d.name z.d.qual z.d.params z.d.body z.d.scope .none kV doc pm an cdv ct) args = pure ((psOf z.d.params).zip us) := by
      rcases hput with rfl | ⟨_, ks, us0, zs, rfl, lz, ok2, hp2⟩
      · exact bind_plain ha rfl nd us (r.length.symm.trans lv)
      · exact (bind_perm ha rfl nd ok2 rfl lz hp2).2
    refine StX.run_bnd lk hcd S hr.toRoom e0 (G := fun xs H2 => xs = vs ∧ H2 = H) (fun A2 Ex2 Q2 hq => ?_) fun s2 H2 xs ⟨ex, eH⟩ hr2 => ?_
    · rw [hb]
      exact wpAny_pure (hq s H vs us e0 Un.refl rfl (fun _ _ z => z) r lv ⟨rfl, rfl⟩)
    · subst ex eH
      exact ⟨_, body A outer s2 _ E ⟨hr2, hr.gd⟩, ad, st, _, Sm, start_sim rw_, fin_good g⟩
end
end Zv

set_option maxRecDepth 100000
set_option maxHeartbeats 8000000
/-! Ev13: a whole program. -/
namespace Zv
open PySem PySem.Spec PyProof.Rows L2
/-- a program's tables: its defs, constants, classes -/
structure Pz where
  defs : List DefZ
  intC : List (Str × Int)
  strC : List (Str × Str)
  bis : List Str
  fns : List Str
  /-- (class, method), the method's full name -/
  meths : List ((Str × Str) × Str)
  /-- (class, field) -/
  flds : List (Str × Str)
  /-- class, the full name of its __init__ -/
  inits : List (Str × Str)
  /-- class, the full name of its __eq__ (of its __str__) -/
  eqs : List (Str × Str)
  sms : List (Str × Str)
  /-- classes that isinstance is asked about; classes whose instances are told -/
  isis : List Str
  ics : List Str
  /-- defs whose results stay in the store; classes whose instances are values -/
  keeps : List Str := []
  frzs : List Str := []
  /-- (class, static method), its full name -/
  stats : List ((Str × Str) × Str) := []
  depth : Nat
  fuel : Nat
def tyNames : List String := ["NoneType", "bool", "int", "str", "tuple", "list", "dict"]
def isiT (n u : String) : Bool := n == u || (n == "bool" && u == "int")
def Pz.par (p : Pz) (f : Str) : List Str × Bool := match p.defs.find? (fun z => decide (z.d.qual = f)) with
  | some z => (psOf z.d.params, starOf z.d.params)
  | none => ([], true)
def Pz.tab (p : Pz) : Tab where
  fns := p.fns
  cons := p.intC.map (·.1) ++ p.strC.map (·.1)
  bis := p.bis
  meths := p.meths.map (·.1.2)
  clss := p.inits.map (·.1)
  isis := p.isis
  stats := p.stats
  par := p.par
/-- where a def's record stands -/
def adOf (st : Bool) (pr : Str × Option Str) (K : PySem.W.Frag) : Addr := match st, pr with
  | true, (C, some m) => He5.wf K (He.ga K C) "staticmethod" m
  | _, pr => He.fAd K pr
def Pz.at_ (p : Pz) (f : Str) : (Str × Option Str) × Bool := match p.defs.find? (fun z => decide (z.d.qual = f)) with
  | some z => (z.d.at_, z.st)
  | none => ((f, none), false)
def Pz.prg (p : Pz) : Prg where
  fn := fun f => (p.defs.find? (fun z => decide (z.d.qual = f))).map (cDef p.tab p.depth)
  con := fun x => match p.intC.lookup x with
    | some i => some (.int i)
    | none => (p.strC.lookup x).map .str
  meth := fun C m => p.meths.lookup (C, m)
  fldOk := fun C f => p.flds.contains (C, f)
  at_ := fun f => adOf (p.at_ f).2 (p.at_ f).1
  par := p.par
  init := fun C => p.inits.lookup C
  isi := fun c t => if p.isis.contains c then (match t with
    | .inl n => if tyNames.contains n then some (if p.bis.contains c then (match tyS c with
      | some u => isiT n u
      | none => false) else false) else none
    | .inr C => if p.ics.contains C then some (decide (C = c)) else none) else none
  eqm := fun C => p.eqs.lookup C
  strm := fun C => p.sms.lookup C
  keep := fun f => p.keeps.contains f
  frz := fun C => p.frzs.contains C
  fuel := p.fuel
def Pz.fa1 (p : Pz) : List He.Fa := p.eqs.map (fun q => .meth q.1 "__eq__") ++ p.sms.map (fun q => .meth q.1 "__str__") ++ p.ics.map .cls ++ (p.isis.filter fun c => !p.bis.contains c).map .glo
def Pz.fa0 (p : Pz) : List He.Fa := p.fns.map .glo ++ p.inits.map (fun q => .glo q.1) ++ p.bis.map .free ++ p.intC.map (fun q => .int q.1 q.2) ++ p.strC.map (fun q => .str q.1 q.2)
  ++ p.flds.map (fun q => .cls q.1) ++ p.flds.map (fun q => .noat q.1 q.2) ++ p.meths.map (fun q => .cls q.1.1) ++ p.meths.map (fun q => .meth q.1.1 q.1.2) ++ p.inits.map (fun q => .mkr q.1)
def Pz.fa (p : Pz) : List He.Fa := (p.fa0 ++ p.fa1) ++ p.stats.map fun q => .glo q.1.1
def insB (K : PySem.W.Frag) (C : Str) : Bool := decide (PySem.W.findIn K (.ref (He.ga K C)) "__class__" = some (some (.builtin "object.__class__"))) && (decide (PySem.W.specialIn K (.builtin "object.__class__") "__get__" = some (some (.builtin "getset_descriptor.__get__"))) &&
  (decide (PySem.W.takesIn K (.builtin "object.__class__") = some true) && decide (PySem.W.mroIn K (He.ga K C) (.type "object") = some true)))
def statB (K : PySem.W.Frag) (C m : Str) : Bool := PySem.W.readsIn K (He.ga K C) (.type "type") && He5.wrapB K (He.ga K C) "staticmethod" "staticmethod.__get__" m
/-- what is asked of the written part beyond the hook's own facts -/
def Pz.exB (p : Pz) (K : PySem.W.Frag) : Bool := (p.isis.all fun c => (p.bis.contains c && (tyS c).isSome) || (!p.bis.contains c && tyNames.all fun n => decide (PySem.W.kitOne K (.type n) (.ref (He.ga K c)) = some false))) &&
  ((p.isis.all fun c => p.ics.all fun C => decide (PySem.W.kitOne K (.ref (He.ga K C)) (clsU K p.tab c) = some (decide (C = c)))) && (p.ics.all (insB K) && p.stats.all fun q => statB K q.1.1 q.1.2))
def Pz.fn (p : Pz) : List He.DefD := (p.defs.filter fun z => !z.st).map (·.d)
def Pz.sn (p : Pz) : List He5.DefA := (p.defs.filter (·.st)).map fun z => { at_ := adOf true z.d.at_, name := z.d.name, qual := z.d.qual, params := z.d.params, body := z.d.body, scope := z.d.scope, dfl := z.d.dfl, kwd := z.d.kwd }
/-- the tables fit -/
def Pz.has (p : Pz) (f : Str) (a : (Str × Option Str) × Bool) : Bool := p.defs.any (fun z => decide (z.d.qual = f)) && decide (p.at_ f = a)
def Pz.ok (p : Pz) : Bool := p.defs.all okDef && ((p.fns.all fun f => p.has f ((f, none), false)) && ((p.meths.all fun q => p.has q.2 ((q.1.1, some q.1.2), false)) && ((p.inits.all fun q => p.has q.2 ((q.1, some ("__init__" : Str)), false)) &&
  ((p.eqs.all fun q => p.has q.2 ((q.1, some ("__eq__" : Str)), false)) && ((p.sms.all fun q => p.has q.2 ((q.1, some ("__str__" : Str)), false)) && (p.stats.all fun q => p.has q.2 ((q.1.1, some q.1.2), true)))))))
theorem look_mem {α β : Type} [BEq α] [LawfulBEq α] : ∀ {l : List (α × β)} {a : α} {b : β}, l.lookup a = some b → (a, b) ∈ l
  | [], _, _, h => by cases h
  | (x, y) :: l, a, b, h => by
    rw [List.lookup_cons] at h
    cases e : a == x with
    | true =>
      rw [e] at h
      cases h
      rw [eq_of_beq e]
      exact List.mem_cons_self
    | false =>
      rw [e] at h
      exact List.mem_cons_of_mem _ (look_mem h)
theorem kit_all : (tyNames.all fun n => ["int", "bool", "tuple", "str", "list"].all fun u => decide (kitB n u = some (isiT n u))) = true := by decide +kernel
theorem kit_tab {K : PySem.W.Frag} {n u : String} {c : Str} (hn : n ∈ tyNames) (ht : tyS c = some u) : PySem.W.kitOne K (.type n) (.type u) = some (isiT n u) := by
  refine kit_ty ?_
  have h := List.all_eq_true.mp kit_all n hn
  have hu : u ∈ ["int", "bool", "tuple", "str", "list"] := by
    unfold tyS at ht
    repeat' (split at ht; · cases ht; decide)
    cases ht
  exact of_decide_eq_true (List.all_eq_true.mp h u hu)
theorem sp_of {K : PySem.W.Frag} {C : Addr} (h : PySem.W.readsIn K C (.type "type") = true) : PySem.W.specialIn K (.ref C) "__getattribute__" = some (some (.builtin "type.__getattribute__")) := by
  simp only [PySem.W.readsIn, Bool.and_eq_true, beq_iff_eq] at h
  obtain ⟨⟨⟨⟨_, h2⟩, h3⟩, _⟩, _⟩ := h
  unfold PySem.W.specialIn
  rw [h2, Option.bind_some]
  exact h3
section
variable {p : Pz} {P : Program} {w : World} {K : PySem.W.Frag} {mg : Str → Option Value} {base h : Heap}
theorem facts_all (hE : ∀ {cl : Cl} {X : Cx} {k : Nat} {WW : WX} {N : List Str} {sc : Scope} {a : Expr} {ca : Ex} {elts : List Expr} {kk : Nat} {tpos p' pos : Pos}, XOk p.tab p.prg cl N sc X k → Gl X "enumerate" → X.mg "enumerate" = none → PE X a (rdE X.K WW (ev p.prg cl ca)) → noStar a = true →
      PI X (.Tuple elts kk tpos) (.Call (.Name "enumerate" p') [a] [] pos) (rdM X.K WW (relI X.K) (evI p.prg cl (.enum ca)))) (ok : p.ok = true) (X : K.In h) (Gn : h.Ns mainGlobals mg) (hf1 : ∀ f ∈ p.fa, He.Fa.ok K f = true) (hx : p.exB K = true) (hd : ∀ z ∈ p.defs, ∃ fd, FunD K z.d.name z.d.qual z.d.params z.d.body z.d.scope (z.d.dvs K) (z.d.kws K) (adOf z.st z.d.at_ K) fd) :
    ∀ k, Facts p.tab p.prg (callK p.prg k) P w K mg base (8 * k) := by
  have ok' := ok
  simp only [Pz.ok, Pz.has, Bool.and_eq_true, List.all_eq_true, decide_eq_true_eq] at ok'
  obtain ⟨ok1, ok2, ok3, ok4, ok5, ok6, ok7⟩ := ok'
  have hf : ∀ f ∈ p.fa0, He.Fa.ok K f = true := fun f h => hf1 f (List.mem_append_left _ (List.mem_append_left _ h))
  have hfx : ∀ f ∈ p.fa1, He.Fa.ok K f = true := fun f h => hf1 f (List.mem_append_left _ (List.mem_append_right _ h))
  simp only [Pz.exB, Bool.and_eq_true, List.all_eq_true, decide_eq_true_eq] at hx
  obtain ⟨hx1, hx2, hx3, hx4⟩ := hx
  -- a def by its full name
  have def_at : ∀ {f : Str}, p.defs.any (fun z => decide (z.d.qual = f)) = true → ∃ z, p.defs.find? (fun z => decide (z.d.qual = f)) = some z ∧ z ∈ p.defs ∧ p.at_ f = (z.d.at_, z.st) ∧ p.prg.fn f = some (cDef p.tab p.depth z) ∧ p.prg.par f = (psOf z.d.params, starOf z.d.params) := fun {f} h => by
    cases e : p.defs.find? (fun z => decide (z.d.qual = f)) with
    | none =>
      rw [List.find?_eq_none] at e
      obtain ⟨z, hz, q⟩ := List.any_eq_true.mp h
      exact absurd q (e z hz)
    | some z => exact ⟨z, rfl, List.mem_of_find?_eq_some e, by unfold Pz.at_; rw [e], by show (p.defs.find? _).map _ = _; rw [e]; rfl, by show p.par f = _; unfold Pz.par; rw [e]⟩
  have adr_eq : ∀ f, adr p.prg K f = adOf (p.at_ f).2 (p.at_ f).1 K := fun _ => rfl
  have ad_no : ∀ pr, adOf false pr K = He.fAd K pr := fun pr => by unfold adOf; rfl
  have run : ∀ (k : Nat) (f : Str), p.defs.any (fun z => decide (z.d.qual = f)) = true → Facts p.tab p.prg (callK p.prg k) P w K mg base (8 * k) → FnG P w K mg base (L2.CX P w) (8 * (k + 1)) (adr p.prg K f) (p.prg.par f) (spC K (callK p.prg (k + 1)) f) := fun k f hq F => by
    obtain ⟨z, e1, hz, e2, e3, e4⟩ := def_at hq
    obtain ⟨fd, FD⟩ := hd z hz
    have R := def_ok (n := p.depth) (fun O => hE O) (z := z) FD (ok1 z hz) F (fc := cDef p.tab p.depth z) rfl
    rw [adr_eq, e2, e4]
    refine R.imp fun vs H Q E h => ?_
    obtain ⟨ad, st, ws, S, r, g⟩ := h
    refine ⟨ad, st, ws, S, r, ?_⟩
    simp only [callK, e3] at g
    exact Good.gc S g
  have run0 : ∀ (f : Addr) (g : Str) (pr : List Str × Bool), FnG P w K mg base (L2.CX P w) (8 * 0) f pr (spC K (callK p.prg 0) g) := fun f g pr A outer s H args us vs Q E hr e0 pt r hs => by
    obtain ⟨_, _, _, _, _, q⟩ := hs
    exact q.elim
  have kp : ∀ {f : Str}, p.defs.any (fun z => decide (z.d.qual = f)) = true → PySem.W.keepIn K (.ref (adr p.prg K f)) = true := fun {f} hq => by
    obtain ⟨z, e1, hz, e2, e3, e4⟩ := def_at hq
    obtain ⟨fd, FD⟩ := hd z hz
    rw [adr_eq, e2]
    exact FD.kp
  have fnr : ∀ k, (∀ j, j < k → Facts p.tab p.prg (callK p.prg j) P w K mg base (8 * j)) → ∀ {f : Str}, p.defs.any (fun z => decide (z.d.qual = f)) = true → FnG P w K mg base (L2.CX P w) (8 * k) (adr p.prg K f) (p.prg.par f) (spC K (callK p.prg k) f) := fun k ih {f} hq => by
    cases k with
    | zero => exact run0 _ _ _
    | succ k => exact run k f hq (ih k (Nat.lt_succ_self _))
  intro k
  induction k using Nat.strongRecOn with
  | _ k ih =>
    refine ⟨fun x hx => ?_, fun x hx => ?_, fun x hx => ?_, fun m hm C f hf' => ?_, fun C f hf' => ?_, fun C hC => ?_, fun c hc hb => ?_, fun c hc t b hb => ?_, fun C f hf' => ?_, fun C f hf' => ?_, fun C m f hf' => ?_, rfl⟩
    · -- constants
      have hx' : x ∈ p.intC.map (·.1) ++ p.strC.map (·.1) := by simpa [Pz.tab] using hx
      show ∃ wv v u, (match p.intC.lookup x with | some i => some (W.int i) | none => (p.strC.lookup x).map W.str) = some wv ∧ _
      cases e : p.intC.lookup x with
      | some i =>
        have hm : (x, i) ∈ p.intC := look_mem e
        have := hf (.int x i) (by simp only [Pz.fa0, List.mem_append, List.mem_map]; exact .inl (.inl (.inl (.inl (.inl (.inl (.inr ⟨(x, i), hm, rfl⟩)))))))
        obtain ⟨t, ht⟩ := He.int_ok X Gn this
        exact ⟨.int i, .int i, _, rfl, ht, ⟨t, rfl⟩, fun _ _ => rfl⟩
      | none =>
        have hx2 : x ∈ p.strC.map (·.1) := by
          rcases List.mem_append.mp hx' with q | q
          · obtain ⟨⟨a, b⟩, hq, rfl⟩ := List.mem_map.mp q
            exact absurd hq (fun hq => by
              have : ∀ (l : List (Str × Int)) (a : Str) (b : Int), (a, b) ∈ l → l.lookup a ≠ none := by
                intro l
                induction l with
                | nil => intro a b h; cases h
                | cons q l ihl =>
                  intro a b h
                  rw [List.lookup_cons]
                  cases eb : a == q.1 with
                  | true => simp
                  | false =>
                    rcases List.mem_cons.mp h with z | z
                    · subst z; simp at eb
                    · exact ihl a b z
              exact this _ _ _ hq e)
          · exact q
        cases e2 : p.strC.lookup x with
        | some z =>
          have hm : (x, z) ∈ p.strC := look_mem e2
          have := hf (.str x z) (by simp only [Pz.fa0, List.mem_append, List.mem_map]; exact .inl (.inl (.inl (.inl (.inl (.inr ⟨(x, z), hm, rfl⟩))))))
          obtain ⟨t, ht⟩ := He.str_ok X Gn this
          exact ⟨.str z, .str z, _, rfl, ht, ⟨t, rfl⟩, fun _ _ => rfl⟩
        | none =>
          exfalso
          obtain ⟨⟨a, b⟩, hq, rfl⟩ := List.mem_map.mp hx2
          have : ∀ (l : List (Str × Str)) (a : Str) (b : Str), (a, b) ∈ l → l.lookup a ≠ none := by
            intro l
            induction l with
            | nil => intro a b h; cases h
            | cons q l ihl =>
              intro a b h
              rw [List.lookup_cons]
              cases eb : a == q.1 with
              | true => simp
              | false =>
                rcases List.mem_cons.mp h with z | z
                · subst z; simp at eb
                · exact ihl a b z
          exact this _ _ _ hq e2
    · -- built-in names
      have hm : x ∈ p.bis := by simpa [Pz.tab] using hx
      exact He.free_ok X Gn (hf (.free x) (by simp only [Pz.fa0, List.mem_append, List.mem_map]; exact .inl (.inl (.inl (.inl (.inl (.inl (.inl (.inr ⟨x, hm, rfl⟩)))))))))
    · -- defs
      have hm : x ∈ p.fns := by simpa [Pz.tab] using hx
      have q := ok2 x hm
      refine ⟨?_, kp q.1, fnr k (fun j hj => ih j hj) q.1⟩
      have := He.glo_ok X Gn (hf (.glo x) (by simp only [Pz.fa0, List.mem_append, List.mem_map]; exact .inl (.inl (.inl (.inl (.inl (.inl (.inl (.inl (.inl ⟨x, hm, rfl⟩))))))))))
      rw [this, adr_eq, q.2]
      rfl
    · -- methods
      have hm1 : ((C, m), f) ∈ p.meths := look_mem hf'
      have q := ok3 _ hm1
      have c1 := He.cls_ok (hf (.cls C) (by simp only [Pz.fa0, List.mem_append, List.mem_map]; exact .inl (.inl (.inr ⟨((C, m), f), hm1, rfl⟩))))
      have c2 := He.meth_ok (hf (.meth C m) (by simp only [Pz.fa0, List.mem_append, List.mem_map]; exact .inl (.inr ⟨((C, m), f), hm1, rfl⟩)))
      refine ⟨c1, ?_, fnr k (fun j hj => ih j hj) q.1⟩
      rw [adr_eq, q.2]
      exact c2
    · -- fields
      have hm1 : (C, f) ∈ p.flds := by
        have : p.flds.contains (C, f) = true := hf'
        simpa using this
      exact ⟨He.cls_ok (hf (.cls C) (by simp only [Pz.fa0, List.mem_append, List.mem_map]; exact .inl (.inl (.inl (.inl (.inr ⟨(C, f), hm1, rfl⟩)))))), He.noat_ok (hf (.noat C f) (by simp only [Pz.fa0, List.mem_append, List.mem_map]; exact .inl (.inl (.inl (.inr ⟨(C, f), hm1, rfl⟩)))))⟩
    · -- classes
      have hm : C ∈ p.inits.map (·.1) := by simpa [Pz.tab] using hC
      show ∃ f, p.inits.lookup C = some f ∧ _
      cases e : p.inits.lookup C with
      | none =>
        exfalso
        obtain ⟨⟨a, b⟩, hq, rfl⟩ := List.mem_map.mp hm
        have : ∀ (l : List (Str × Str)) (a : Str) (b : Str), (a, b) ∈ l → l.lookup a ≠ none := by
          intro l
          induction l with
          | nil => intro a b h; cases h
          | cons q l ihl =>
            intro a b h
            rw [List.lookup_cons]
            cases eb : a == q.1 with
            | true => simp
            | false =>
              rcases List.mem_cons.mp h with z | z
              · subst z; simp at eb
              · exact ihl a b z
        exact this _ _ _ hq e
      | some f =>
        have hm1 : (C, f) ∈ p.inits := look_mem e
        have q := ok4 _ hm1
        refine ⟨f, rfl, ?_, ?_, fnr k (fun j hj => ih j hj) q.1⟩
        · have := He.mkr_ok (hf (.mkr C) (by simp only [Pz.fa0, List.mem_append, List.mem_map]; exact .inr ⟨(C, f), hm1, rfl⟩))
          rw [adr_eq, q.2]
          exact this
        · exact He.glo_ok X Gn (hf (.glo C) (by simp only [Pz.fa0, List.mem_append, List.mem_map]; exact .inl (.inl (.inl (.inl (.inl (.inl (.inl (.inl (.inr ⟨(C, f), hm1, rfl⟩))))))))))
    · -- a class that isinstance asks about
      have hm : c ∈ p.isis := by simpa [Pz.tab] using hc
      have hb' : p.bis.contains c = false := hb
      exact He.glo_ok X Gn (hfx (.glo c) (by simp only [Pz.fa1, List.mem_append, List.mem_map, List.mem_filter]; exact .inr ⟨c, ⟨hm, by rw [hb']; rfl⟩, rfl⟩))
    · have hm : c ∈ p.isis := by simpa [Pz.tab] using hc
      have hcc : p.isis.contains c = true := hc
      change (if p.isis.contains c then (match t with
        | .inl n => if tyNames.contains n then some (if p.bis.contains c then (match tyS c with
          | some u => isiT n u
          | none => false) else false) else none
        | .inr C => if p.ics.contains C then some (decide (C = c)) else none) else none) = some b at hb
      rw [hcc] at hb
      simp only [if_true] at hb
      cases t with
      | inl n =>
        simp only at hb
        split at hb
        · rename_i hn
          have hn' : n ∈ tyNames := by simpa using hn
          refine ⟨?_, fun C z => by cases z⟩
          have h1 := hx1 c hm
          cases hbc : p.bis.contains c with
          | true =>
            rw [hbc] at hb h1
            simp only [Bool.true_and, Bool.not_true, Bool.false_and, Bool.or_false] at h1
            cases ht : tyS c with
            | none => rw [ht] at h1; cases h1
            | some u =>
              rw [ht] at hb
              simp only [if_true] at hb
              have hcu : clsU K p.tab c = .type u := by unfold clsU; rw [show p.tab.bis.contains c = true from hbc, ht]; rfl
              rw [hcu, ← hb]
              exact kit_tab hn' ht
          | false =>
            rw [hbc] at hb h1
            simp only [Bool.false_and, Bool.false_or, Bool.not_false, Bool.true_and, List.all_eq_true, decide_eq_true_eq] at h1
            have hcu : clsU K p.tab c = .ref (He.ga K c) := by unfold clsU; rw [show p.tab.bis.contains c = false from hbc]; rfl
            rw [hcu, ← hb]
            exact h1 n hn'
        · cases hb
      | inr C =>
        simp only at hb
        split at hb
        · rename_i hC
          have hC' : C ∈ p.ics := by simpa using hC
          refine ⟨?_, fun C' z => ?_⟩
          · rw [← hb]; exact hx2 c hm C hC'
          · cases z
            have h3 := hx3 C hC'
            simp only [insB, Bool.and_eq_true, decide_eq_true_eq] at h3
            exact ⟨He.cls_ok (hfx (.cls C) (by simp only [Pz.fa1, List.mem_append, List.mem_map]; exact .inl (.inr ⟨C, hC', rfl⟩))), h3.1, h3.2.1, h3.2.2.1, h3.2.2.2⟩
        · cases hb
    · have hm1 : (C, f) ∈ p.eqs := look_mem hf'
      have q := ok5 _ hm1
      have c2 := He.meth_ok (hfx (.meth C "__eq__") (by simp only [Pz.fa1, List.mem_append, List.mem_map]; exact .inl (.inl (.inl ⟨(C, f), hm1, rfl⟩))))
      have e : adr p.prg K f = He.ma K (He.ga K C) "__eq__" := by rw [adr_eq, q.2]; rfl
      rw [e]
      refine ⟨c2.at_, c2.fn, ?_⟩
      rw [← e]
      exact fnr k (fun j hj => ih j hj) q.1
    · have hm1 : (C, f) ∈ p.sms := look_mem hf'
      have q := ok6 _ hm1
      have c2 := He.meth_ok (hfx (.meth C "__str__") (by simp only [Pz.fa1, List.mem_append, List.mem_map]; exact .inl (.inl (.inr ⟨(C, f), hm1, rfl⟩))))
      have e : adr p.prg K f = He.ma K (He.ga K C) "__str__" := by rw [adr_eq, q.2]; rfl
      rw [e]
      refine ⟨c2.at_, c2.fn, ?_⟩
      rw [← e]
      exact fnr k (fun j hj => ih j hj) q.1
    · -- static methods
      have hm1 : ((C, m), f) ∈ p.stats := look_mem hf'
      have q := ok7 _ hm1
      have hb := hx4 _ hm1
      simp only [statB, Bool.and_eq_true] at hb
      obtain ⟨w1, rest, w2⟩ := He5.wrapB_ok hb.2
      refine ⟨He.glo_ok X Gn (hf1 (.glo C) (List.mem_append_right _ (List.mem_map.mpr ⟨((C, m), f), hm1, rfl⟩))), ⟨hb.1, sp_of hb.1, ⟨_, rest, w1, ?_⟩, kp q.1⟩, fnr k (fun j hj => ih j hj) q.1⟩
      rw [adr_eq, q.2]
      exact w2
end
end Zv

set_option maxRecDepth 100000
set_option maxHeartbeats 8000000
namespace Zv
open PySem PySem.Spec PyProof.Rows PyProof
set_option maxHeartbeats 1000000 in
theorem meets_enumerate_newT (l : Addr) (items : Array Value) (n : Nat) (dct : Option Addr) (sl : Array (Option Value)) :
    Meets (Builtin.«enumerate.__new__» ⟨[.type "enumerate", .ref l], []⟩) (fun _ R s =>
      s.heap.get? l = some { cls := .type "tuple", dict := dct, data := .seq items n, slots := sl } ∧
      R (.ok (.ret (.ref (s.heap.push { cls := .type "tuple_iterator", data := .fields #[.ref l, .int 0 0] }).objs.size)))
        { s with heap := (s.heap.push { cls := .type "tuple_iterator", data := .fields #[.ref l, .int 0 0] }).push { cls := .type "enumerate", data := .fields #[.none, .bool false, .ref s.heap.objs.size, rawInt 0, .none, .none] } }) :=
  .of_wp fun prog w A R s h => by
    obtain ⟨hp, g, d, tk, os⟩ := s; obtain ⟨hl, h⟩ := h
    have hsub := sub_enumerate
    have hL : Heap.IsTuple (Shared.heap ⟨hp, g, d, tk, os⟩) l items := ⟨_, hl, rfl, n, rfl⟩
    wp_walk using wpAny_loadPart' hl
    refine wpAny_stack_any fun st => wpAny_pure ?_
    split
    · rename_i c _ _ _ _ _
      cases (c == Value.type "enumerate")
      · wp_walk using wpAny_loadPart' hl, wpAny_pyIter_tuple hL
        exact ⟨_, rfl, h⟩
      · wp_walk using wpAny_loadPart' hl, wpAny_pyIter_tuple hL
        exact ⟨_, rfl, h⟩
    · wp_walk using wpAny_loadPart' hl, wpAny_pyIter_tuple hL
      exact ⟨_, rfl, h⟩
section
variable {prog : Program} {w : World} {A : Around} {E : Value → Shared → Prop} {s : Shared}
theorem call_enumerate_tup {l : Addr} {items : Array Value} {Q : Value → Shared → Prop} (hL : s.heap.IsTuple l items)
    (h : ∀ h', IsEnum h' (s.heap.objs.size + 1) s.heap.objs.size 0 .none → h'.IsTupleIter s.heap.objs.size l 0 → h'.objs.size = s.heap.objs.size + 2 →
      (∀ b o, s.heap.get? b = some o → h'.get? b = some o) → Q (.ref (s.heap.objs.size + 1)) { s with heap := h' }) :
    wpAny (model prog w) A (call (.type "enumerate") [.ref l]) Q E s := by
  obtain ⟨⟨c, dct, dt, sl⟩, hl, hc, n, hd⟩ := hL
  replace hc : c = .type "tuple" := hc
  replace hd : dt = .seq items n := hd
  subst hc hd
  refine callType_new F.called_enumerate (by decide) (F.typeCall_enumerate_1 _) (F.newCall_enumerate_1 _) (fun obj => F.args_object_init_2 obj _) F.entry_enumerate_new
    (meets_enumerate_newT l items n dct sl) ⟨hl, ?_⟩
  have hz : (s.heap.push { cls := .type "tuple_iterator", data := .fields #[.ref l, .int 0 0] }).objs.size = s.heap.objs.size + 1 := Heap.size_push ..
  show _ ∧ _
  rw [hz]
  have he : IsEnum ((s.heap.push { cls := .type "tuple_iterator", data := .fields #[.ref l, .int 0 0] }).push
      { cls := .type "enumerate", data := .fields #[.none, .bool false, .ref s.heap.objs.size, rawInt 0, .none, .none] }) (s.heap.objs.size + 1) s.heap.objs.size 0 .none := by
    have := Heap.get?_push_size (s.heap.push { cls := .type "tuple_iterator", data := .fields #[.ref l, .int 0 0] })
      (o := { cls := .type "enumerate", data := .fields #[.none, .bool false, .ref s.heap.objs.size, rawInt 0, .none, .none] }) rfl
    rw [hz] at this
    exact this
  exact ⟨⟨_, he, rfl⟩, h _ he ⟨_, Heap.get?_push_of_some _ (Heap.get?_push_size _ rfl), rfl, rfl⟩ (by rw [Heap.size_push, hz]) fun b o x => Heap.get?_push_of_some _ (Heap.get?_push_of_some _ x)⟩
end
open L2
def ItTe (K : PySem.W.Frag) (b : Addr) : L2.It := ⟨fun i H => ∃ (xs : List V) (x : V), SqT K H b xs ∧ xs[i]? = some x, fun i H v H' => ∃ T x, v = .ref T ∧ H T = none ∧ H' = upd H T (.tup [.int (i : Nat), x]) ∧ ∀ xs, SqT K H b xs → xs[i]? = some x, fun i H => ∃ xs : List V, SqT K H b xs ∧ xs.length ≤ i⟩
theorem turn_enumT {P : Program} {w : World} {K : PySem.W.Frag} {elts : List Expr} {kk : Nat} {tpos : Pos} (a e it : Addr) :
    Turn P w K (.Tuple elts kk tpos) (ItTe K a) [e, it] e (fun i h => (∃ old, IsEnum h e it ((i : Nat) : Int) old) ∧ h.IsTupleIter it a i ∧ e ≠ it) where
  mem := by simp
  obj := fun i h st b hb => by
    obtain ⟨⟨old, he⟩, ⟨o, ho, hc, hd⟩, _⟩ := st
    have e' : b = e ∨ b = it := by simpa using hb
    rcases e' with z | z
    · rw [z]; exact ⟨_, he, fun v q => nomatch q⟩
    · rw [z]; exact ⟨o, ho, fun v q => by rw [hd] at q; cases q⟩
  keep := fun i h h' st k => let ⟨⟨old, he⟩, hi, hne⟩ := st; ⟨⟨old, k e (by simp) _ he⟩, hi.at fun o q => k it (by simp) o q, hne⟩
  item := by
    intro X hP hw hK hc i pins s σ H E I hf st hg
    subst hP hw hK
    obtain ⟨⟨old, he⟩, hit, hne⟩ := st
    obtain ⟨xs, x, hq, hx⟩ := hg
    obtain ⟨its, rv, p, hz⟩ := I.tuple hq
    obtain ⟨u, hu, ru⟩ := rv.get hx
    have hel : e < s.heap.objs.size := Heap.lt_size he
    have hil : it < s.heap.objs.size := by obtain ⟨_, q, _⟩ := hit; exact Heap.lt_size q
    have hta : s.heap.IsTuple a its.toArray := p
    have hai : a ≠ it := fun z => by
      obtain ⟨o1, q1, c1, _⟩ := p
      obtain ⟨o2, q2, c2, _⟩ := hit
      rw [z, q2] at q1
      cases q1
      rw [c2] at c1
      exact absurd (Value.type.inj c1) (by decide)
    have hae : e ≠ a := fun z => by
      obtain ⟨o1, q1, c1, _⟩ := p
      rw [← z, show s.heap.get? e = _ from he] at q1
      cases q1
      exact absurd (Value.type.inj c1) (by decide)
    have hii : i < its.toArray.size := by
      have := (List.getElem?_eq_some_iff.mp hu).1
      simpa using this
    refine wpAny_pyNext_enum_itemD (Draws.tuple (A := X.A.in1) (show X.A.in1.handled = none from I.ok.hd hc) it a hai its.toArray) he ⟨hit, hta⟩ hii hne (by simp [hne, hae]) fun x' h' tk hP ho hst' hT hsz hk => ?_
    have ex : x' = u := by
      have : its.toArray[i]? = some u := by simpa using hu
      rw [this] at hP
      exact (Option.some.inj hP).symm
    subst ex
    refine ⟨_, rfl, wpAny_letOwnedTupleGo_enum (s := { s with heap := h', toks := tk + 1 }) ho fun h'' he' sb => ?_⟩
    have hT2 : h''.get? s.heap.objs.size = some { cls := .type "tuple", data := .seq #[.int i tk, x'] } := (sb.2 _ (Nat.ne_of_gt hel)).trans hT
    have new : ObjOk X.prog X.w (upd H s.heap.objs.size (.tup [.int (i : Nat), x])) h'' s.heap.objs.size (.tup [.int (i : Nat), x]) :=
      ⟨by show 2 ≤ sizeLine; decide, [.int i tk, x'], .cons ⟨_, rfl⟩ (.cons ru .nil), ⟨_, hT2, rfl, _, rfl⟩⟩
    have I1 : L2.Inv X pins σ (upd H s.heap.objs.size (.tup [.int (i : Nat), x])) { s with heap := h'', toks := tk + 1 } :=
      I.turnedNew (ch := [e, it]) (fun b ob hb q => (sb.2 b (fun z => hb (by simp [z]))).trans (hk b ob (fun z => hb (by simp [z])) (fun z => hb (by simp [z])) q)) hf (Nat.le_refl _) new
    refine ⟨.ref s.heap.objs.size, _, I1, rfl, ⟨_, x, rfl, I.hok.fresh (Nat.le_refl _), rfl, fun ys hy => by rw [I.tuple_inj hy hq]; exact hx⟩, ⟨⟨x', ?_⟩, hst'.1.at fun o q => (sb.2 it (Ne.symm hne)).trans q, hne⟩, fun b hb => ?_⟩
    · have e1 : ((i + 1 : Nat) : Int) = (i : Int) + 1 := by omega
      rw [e1]; exact he'
    · have hb' : b < s.heap.objs.size := by
        have e' : b = e ∨ b = it := by simpa using hb
        rcases e' with z | z
        · rw [z]; exact hel
        · rw [z]; exact hil
      rw [upd_ne (Nat.ne_of_lt hb')]
      exact (hf b hb).1
  done := by
    intro X hP hw hK hc i pins s σ H E I hf st hg
    subst hP hw hK
    obtain ⟨⟨old, he⟩, hit, hne⟩ := st
    obtain ⟨xs, hq, hx⟩ := hg
    obtain ⟨its, rv, p, hz⟩ := I.tuple hq
    obtain ⟨f0, f1, f2, f3, f4, f5⟩ := hf it (by simp)
    have hl := rv.length
    have hT : s.TypeIs (.ref e) "enumerate" := ⟨_, he, rfl⟩
    unfold pyNext
    refine wpAny_bind (wpAny_attempt (wpAny_callSpecial?_slot (name := Str.ofString "__next__") hT F.slot_enumerate_next
      (wpAny_call_entry F.slot_enumerate_next hT F.entry_enumerate_next ?_ (F.args_enumerate_next_1 _))))
    show wpAny _ _ (field (.ref e) 2 >>= _) _ _ _
    refine wpAny_bind (wpAny_field he rfl (x := .ref it) rfl ?_)
    refine wpAny_bind (wpAny_nextOf_tuple_end (I.ok.hd hc) hit (show s.heap.IsTuple a its.toArray from p) (by simp; omega) fun h' x' he' hx' => ?_)
    obtain ⟨o, ho, hcc⟩ := hx'
    refine wpAny_bind (wpAny_isInstance (T := "StopIteration") (b := true) ⟨o, ho, hcc⟩ isSubtype_stop ?_)
    exact wpAny_pure ⟨rfl, I.turned (t' := s.toks) (fun b o hb q => he' b o hb q) f0 f1 f3 f4 f5⟩
  self := fun A i s Q E st h => let ⟨⟨_, he⟩, _⟩ := st; wpAny_pyIter_enum he h
theorem pi_enumT {X : Cx} {e : Expr} {te : TE} {p pos tpos : Pos} {elts : List Expr} {kk : Nat} (hg : Gl X "enumerate") (hm : X.mg "enumerate" = none) (ha : PE X e te) (hs : starEach [e] X.env = [(false, eval e X.env)]) :
    PI X (.Tuple elts kk tpos) (.Call (.Name "enumerate" p) [e] [] pos) (fun σ H R => te σ H fun v H1 => ∃ b xs, [v] = [V.ref b] ∧ SqT X.K H1 b xs ∧ R (ItTe X.K b) H1) := by
  refine ⟨fun pins s σ H R I h => ?_⟩
  refine Call_ (ld_blt I hg hm boot_enumerate (PyProof.Rows.callWith_type1 (thn ((pa_cons ha pa_nil hs).run pos pins s σ H (fun vs H1 => ∃ b xs, vs = [.ref b] ∧ SqT X.K H1 b xs ∧ R (ItTe X.K b) H1) I h) fun us s1 ⟨vs, H1, I1, r1, q1⟩ => ?_) hs rfl))
  · obtain ⟨a, xs, ex, hq, q⟩ := q1
    subst ex
    cases r1 with
    | cons r rr =>
      cases rr
      cases r
      obtain ⟨its, rv, p', hz⟩ := I1.tuple hq
      refine call_enumerate_tup (show s1.heap.IsTuple a its.toArray from p') fun h' he hit hsz hk => wpAny_pyIter_enum he ?_
      have I2 : L2.Inv X pins σ H1 { s1 with heap := h' } := I1.kept (t' := s1.toks) hk
      refine ⟨s1.heap.objs.size + 1, [s1.heap.objs.size + 1, s1.heap.objs.size], _, _, H1, rfl, I2, turn_enumT a (s1.heap.objs.size + 1) s1.heap.objs.size, ⟨⟨.none, he⟩, hit, Nat.succ_ne_self _⟩, fun b hb => ?_, q⟩
      have e' : b = s1.heap.objs.size + 1 ∨ b = s1.heap.objs.size := by simpa using hb
      have hle : s1.heap.objs.size ≤ b := by
        rcases e' with z | z
        · rw [z]; exact Nat.le_add_right _ _
        · rw [z]; exact Nat.le_refl _
      exact I1.fpOk hle (I1.hok.fresh hle)
theorem hE {G : Prg} {cl : Cl} {X : Cx} {WW : WX} {a : Expr} {ca : Ex} {elts : List Expr} {kk : Nat} {tpos p pos : Pos} (h1 : Gl X "enumerate") (h2 : X.mg "enumerate" = none) (h3 : PE X a (rdE X.K WW (ev G cl ca))) (h4 : noStar a = true) :
      PI X (.Tuple elts kk tpos) (.Call (.Name "enumerate" p) [a] [] pos) (rdM X.K WW (relI X.K) (evI G cl (.enum ca))) := z_enumL h1 h2 h3 h4 (pi_enumT h1 h2 h3 (star_cons h4))
end Zv

set_option maxRecDepth 100000
set_option maxHeartbeats 4000000
/-! EvLaw: the law's call from a promise that is given for the outermost place alone (there nothing is being shown: guards = []). -/
namespace Zv
open PySem PySem.Spec PyProof.Rows L2
/-- what is tracked at the start: the script at most -/
structure Scr (P : Program) (w : World) (K : PySem.W.Frag) (a : Addr) (h : Heap) (H : Hp) : Prop where
  only : Only H
  here : ∀ b, H b ≠ none → b = a
  out : H a ≠ none → K.lookup a = none
  ok : HOk P w H h
section
variable {P : Program} {w : World} {K : PySem.W.Frag} {mg mb : Str → Option Value} {a : Addr} {h : Heap} {H : Hp} {vs : List Value}
theorem Scr.dict (c : Scr P w K a h H) (ha : h.get? a = some { cls := .type "list", data := .seq vs.toArray }) {b : Addr} {o : Obj} {es : Array DictEntry} {n : Nat} (e : h.get? b = some o) (d : o.data = .dict es n) : H b = none := by
  refine Classical.byContradiction fun hn => ?_
  have hb := c.here b hn
  rw [hb, ha] at e
  cases e
  exact nomatch d
theorem Scr.ns (c : Scr P w K a h H) (ha : h.get? a = some { cls := .type "list", data := .seq vs.toArray }) {b : Addr} {m : Str → Option Value} (n : h.Ns b m) : (hidT h H).Ns b m := by
  obtain ⟨o, es, ep, e, d, r⟩ := n
  exact ⟨o, es, ep, hidT_get e (c.dict ha e d), d, r⟩
theorem Scr.kin (c : Scr P w K a h H) (X : K.In h) : K.In (hidT h H) := by
  intro b o e
  refine hidT_get (X b o e) (Classical.byContradiction fun hn => ?_)
  have hb := c.here b hn
  rw [hb] at hn e
  rw [c.out hn] at e
  cases e
theorem Scr.env {s : Shared} (c : Scr P w K a s.heap H) (ha : s.heap.get? a = some { cls := .type "list", data := .seq vs.toArray }) (X : K.In s.heap) (g : s.heap.Ns mainGlobals mg) (b : s.heap.Ns builtinsNs mb) (bb : ∀ x : Str, x ≠ "__name__" → mb x = bootBuiltins x) (nl : s.heap.NoLimit) (gs : s.gens = #[]) :
    Env0 P w K mg (hidT s.heap H) callerA [] s H := by
  obtain ⟨mc, l1, l2⟩ := nl
  have md : Mod K mg (hidT s.heap H) := ⟨c.kin X, c.ns ha g, ⟨mb, c.ns ha b, bb⟩, ⟨mc, c.ns ha l1, l2⟩⟩
  exact ⟨rfl, md, fun _ _ e => of_hidT e, Nat.le_of_eq (hidT_size _ _), trivial, (fun _ q => nomatch q), c.ok, .of_eq gs⟩
/-- the promise, then what the head asks -/
theorem Scr.fin {CX : CXT} {s : Shared} {fa : Addr} (c : Scr P w K a s.heap H) (hx : ∀ e s', CX [] H s (fun _ _ _ => False) e s' → False)
    (p : codeAny (model P w) callerA (.call (.ref fa) ⟨[.ref a], []⟩) (CR CX [] P w H s (fun v _ => v = .bl true) fun _ _ _ => False) s) :
    codeAny (model P w) callerA (.call (.ref fa) ⟨[.ref a], []⟩) (fun r s' => r = .ok (.ret (.bool true)) ∧ OldK s.heap s'.heap ∧ s'.os = s.os ∧ AllBare s'.gens) s := by
  refine codeAny_mono p fun r s' z => ?_
  match r, z with
  | .error e, z => exact (hx e s' z).elim
  | .ok .next, z => exact z.elim
  | .ok .brk, z => exact z.elim
  | .ok .cont, z => exact z.elim
  | .ok (.ret u), z =>
    obtain ⟨v, H2, os, bare, un, ok2, rv, q⟩ := z
    have q2 : v = .bl true := q
    rw [q2] at rv
    have hu : u = Value.bool true := rv
    rw [hu]
    refine ⟨rfl, OldK.of_keep fun b o e => ?_, os, bare⟩
    rcases c.only b with n | ⟨ob, xs, f⟩
    · exact un.keep b o e n (fun q => nomatch q) (by simp)
    · have k1 := (c.ok b _ f).1
      have k2 := (ok2 b _ (un.frzs b ob _ f)).1
      rw [e] at k1
      cases k1
      exact k2
theorem law_at {CX : CXT} {s : Shared} {fa : Addr} {sp : Sp} {ns : List Int} (X : K.In s.heap) (g : s.heap.Ns mainGlobals mg) (b : s.heap.Ns builtinsNs mb) (bb : ∀ x : Str, x ≠ "__name__" → mb x = bootBuiltins x) (nl : s.heap.NoLimit) (gs : s.gens = #[])
    (ha : s.heap.get? a = some { cls := .type "list", data := .seq vs.toArray }) (hi : IntsAre vs ns) (hl : ns.length ≤ sizeLine)
    (F : ∀ base : Heap, K.In base → base.Ns mainGlobals mg → ∀ (H : Hp) (Q : VK) (E : XK), Env0 P w K mg base callerA [] s H → sp [.ref a] H Q E → codeAny (model P w) callerA (.call (.ref fa) ⟨[.ref a], []⟩) (CR CX [] P w H s Q E) s)
    (hsp : ∀ H : Hp, SqL K H a (ns.map V.int) → sp [.ref a] H (fun v _ => v = .bl true) fun _ _ _ => False) (hx : ∀ H e s', CX [] H s (fun _ _ _ => False) e s' → False) :
    codeAny (model P w) callerA (.call (.ref fa) ⟨[.ref a], []⟩) (fun r s' => r = .ok (.ret (.bool true)) ∧ OldK s.heap s'.heap ∧ s'.os = s.os ∧ AllBare s'.gens) s := by
  have go : ∀ H : Hp, Scr P w K a s.heap H → SqL K H a (ns.map V.int) → codeAny (model P w) callerA (.call (.ref fa) ⟨[.ref a], []⟩) (fun r s' => r = .ok (.ret (.bool true)) ∧ OldK s.heap s'.heap ∧ s'.os = s.os ∧ AllBare s'.gens) s :=
    fun H c q => c.fin (hx H) (F _ (c.kin X) (c.ns ha g) H _ _ (c.env ha X g b bb nl gs) (hsp H q))
  have rv := vals_ints hi
  by_cases hk : K.lookup a = none
  · refine go (fun z => if z = a then some (.frz { cls := .type "list", data := .seq vs.toArray } (.lst (ns.map V.int))) else none) ⟨fun z => ?_, fun z hz => ?_, fun _ => hk, fun z u hz => ?_⟩ (.inl (.inr ⟨_, if_pos rfl⟩))
    · by_cases e : z = a
      · exact .inr ⟨_, _, if_pos e⟩
      · exact .inl (if_neg e)
    · exact Classical.byContradiction fun e => hz (if_neg e)
    · by_cases e : z = a
      · rw [if_pos e] at hz
        cases hz
        rw [e]
        exact ⟨ha, by rw [List.length_map]; exact hl, vs, _, rv, ha⟩
      · rw [if_neg e] at hz
        cases hz
  · obtain ⟨o, ho⟩ := Option.ne_none_iff_exists'.mp hk
    have e := X a o ho
    rw [ha] at e
    cases e
    refine go (fun _ => none) ⟨fun _ => .inl rfl, fun _ z => absurd rfl z, fun z => absurd rfl z, fun _ _ z => nomatch z⟩ (.inr ⟨_, vs.toArray, _, ho, rfl, rfl, rfl, ?_, by simpa using rv⟩)
    rw [List.size_toArray, hi.length]
    exact hl
end
/-- the goal of the head's last case -/
theorem walk_at {l : PySem.W.OpenLaw} {n : Nat} {q : Program} {loose : List Str} {XP : (Str → Option Value) → Heap → Prop} {YP : World → Heap → Prop} {d : DefRec} {CX : World → CXT}
    (hn : l.most = some n) (hn2 : n ≤ sizeLine) (hdf : d.params.defaults = [])
    (F : ∀ (w : World) (mg : Str → Option Value) (fa : Addr) (h : Heap), YP w h → h.Ns mainGlobals mg → mg d.name = some (.ref fa) →
      ∃ (K : PySem.W.Frag) (sp : Sp), K.In h ∧ (∀ (H : Hp) (a : Addr) (ns : List Int), ns.length ≤ n → SqL K H a (ns.map V.int) → sp [.ref a] H (fun v _ => v = .bl true) fun _ _ _ => False) ∧
        ∀ base : Heap, K.In base → base.Ns mainGlobals mg → ∀ (a : Addr) (s : Shared) (H : Hp) (Q : VK) (E : XK), Env0 l.prog w K mg base callerA [] s H → sp [.ref a] H Q E → codeAny (model l.prog w) callerA (.call (.ref fa) ⟨[.ref a], []⟩) (CR (CX w) [] l.prog w H s Q E) s)
    (hx : ∀ (w : World) (H : Hp) (s : Shared) (e : Value) (s' : Shared), CX w [] H s (fun _ _ _ => False) e s' → False) :
    PySem.W.WalkO q loose XP YP l.row.toRowW d [] (fun f vs => PySem.call f vs) := by
  refine Att.attach_call hn hdf fun w s0 s1 mg mb fa o pm cd doc a vs ns G Y ho hd hcd hmg hobj hints hlen hg => ?_
  obtain ⟨K, sp, X, hsp, hF⟩ := F w mg fa _ Y G.T.g hmg
  exact law_at X G.T.g G.T.b G.T.builtins G.T.nolimit hg hobj hints (Nat.le_trans hlen hn2) (fun base k1 k2 H Q E e0 z => hF base k1 k2 a s1 H Q E e0 z) (fun H z => hsp H a ns hlen z) fun H e s' => hx w H s1 e s'
end Zv

set_option maxRecDepth 100000
set_option maxHeartbeats 8000000
/-! Ev14: the law's end. -/
namespace Zv
open PySem PySem.Spec PyProof.Rows L2
def LawOk (p : Pz) (k : Nat) (f : Str) : Prop := ∀ (ns : List Int), ns.length ≤ 63 → ∀ (w : W), (w = .vl (ns.map W.int) ∨ w = .fzl (ns.map W.int)) → ∃ st', callK p.prg k f [w] [] = .ok (.bl true) st'
theorem gc_true {k : Bool} {st st' : Sto} (r : R W) (h : gcR k st r = .ok (.bl true) st') : ∃ st2, r = .ok (.bl true) st2 := by
  cases r with
  | stuck => cases h
  | err x s => simp only [gcR] at h; split at h <;> cases h
  | ok w s =>
    simp only [gcR] at h
    split at h
    · split at h
      · rename_i u hu
        cases h
        cases k with
        | true =>
          simp only [if_true] at hu
          split at hu
          · cases hu; exact ⟨_, rfl⟩
          · cases hu
        | false =>
          simp only [Bool.false_eq_true, if_false] at hu
          unfold frzW at hu
          split at hu
          · cases hu; exact ⟨_, rfl⟩
          · split at hu
            · split at hu
              · cases hh : allSome (frzW st.length s 4) _ with
                | none => rw [hh] at hu; cases hu
                | some z => rw [hh] at hu; cases hu
              · cases hu
            · cases hh : allSome (frzW st.length s 4) _ with
              | none => rw [hh] at hu; cases hu
              | some z => rw [hh] at hu; cases hu
            · cases hh : allSome (frzW st.length s 4) _ with
              | none => rw [hh] at hu; cases hu
              | some z => rw [hh] at hu; cases hu
            · cases hu
      · cases h; exact ⟨_, rfl⟩
    · cases h; exact ⟨_, rfl⟩
theorem ints_rv {K : PySem.W.Frag} {ad : Ad} {H : Hp} : ∀ ns : List Int, RVs K ad H (ns.map W.int) (ns.map V.int)
  | [] => rfl
  | n :: ns => ⟨_, _, rfl, rfl, ints_rv ns⟩
/-! ### what the head tells: facts, defs, static methods' defs, more -/
def frZ (g : Addr → Option Obj) (n : Nat) : PySem.W.Frag := He.frT g (He5.asA g n)
abbrev AlZ : Type := He.AlD × (He.AlD × Bool)
def obsZ (n : Nat) (fa : List He.Fa) (fn : List He.DefD) (sn : List He5.DefA) (ex : PySem.W.Frag → Bool) (g : Addr → Option Obj) : AlZ := (He.obsD fa fn (frZ g n), (He5.obsA [] sn (frZ g n), ex (frZ g n)))
structure SaysZ (fa : List He.Fa) (fn : List He.DefD) (sn : List He5.DefA) (ex : PySem.W.Frag → Bool) (K : PySem.W.Frag) : Prop where
  d : He.SaysD fa fn K
  s : He5.SaysA [] sn K
  more : ex K = true
def hookZ (n : Nat) (fa : List He.Fa) (fn : List He.DefD) (sn : List He5.DefA) (ex : PySem.W.Frag → Bool) : PySem.W.Hook where
  α := AlZ
  obs := fun t => obsZ n fa fn sn ex t.heap.get?
  val := fun _ => (He.valD fn, (He5.valA sn, true))
  says := fun _ h => ∃ K : PySem.W.Frag, K.In h ∧ SaysZ fa fn sn ex K
  of := fun _ _ e => ⟨_, He.frT_in, congrArg (fun q : AlZ => q.1) e, congrArg (fun q : AlZ => q.2.1) e, congrArg (fun q : AlZ => q.2.2) e⟩
  keeps := fun _ _ _ ⟨K, i, c⟩ k => ⟨K, i.keeps k, c⟩
theorem obsZ_eq {n : Nat} {fa : List He.Fa} {fn : List He.DefD} {sn : List He5.DefA} {ex : PySem.W.Frag → Bool} {g : Addr → Option Obj} {t : Shared} (h : ∀ a, g a = t.heap.get? a) : obsZ n fa fn sn ex g = (hookZ n fa fn sn ex).obs t := by
  obtain rfl : g = t.heap.get? := funext h
  rfl
section
variable {p : Pz} {P : Program} {w : World} {K : PySem.W.Frag} {mg : Str → Option Value} {h : Heap}
theorem law_fn (ok : p.ok = true) (X : K.In h) (Gn : h.Ns mainGlobals mg) (c : SaysZ p.fa p.fn p.sn p.exB K) {k : Nat} (law : LawOk p k "law") (hr : Rm (8 * k) callerA) {fa : Addr} (hfa : mg ("law" : Str) = some (.ref fa)) (hgl : p.fns.contains ("law" : Str) = true) :
    ∃ sp : Sp, (∀ (H : Hp) (a : Addr) (ns : List Int), ns.length ≤ 63 → SqL K H a (ns.map V.int) → sp [.ref a] H (fun v _ => v = .bl true) fun _ _ _ => False) ∧
      ∀ base : Heap, K.In base → base.Ns mainGlobals mg → ∀ (a : Addr) (s : Shared) (H : Hp) (Q : VK) (E : XK), Env0 P w K mg base callerA [] s H → sp [.ref a] H Q E → codeAny (model P w) callerA (.call (.ref fa) ⟨[.ref a], []⟩) (CR (L2.CX P w) [] P w H s Q E) s := by
  have hf : ∀ f ∈ p.fa, He.Fa.ok K f = true := fun f hf => c.d.facts hf
  have hd : ∀ z ∈ p.defs, ∃ fd, FunD K z.d.name z.d.qual z.d.params z.d.body z.d.scope (z.d.dvs K) (z.d.kws K) (adOf z.st z.d.at_ K) fd := fun z hz => by
    cases hs : z.st with
    | false => exact c.d.defs (List.mem_map_of_mem (List.mem_filter.mpr ⟨hz, by rw [hs]; rfl⟩))
    | true =>
      have hm : _ ∈ p.sn := List.mem_map_of_mem (List.mem_filter.mpr ⟨hz, hs⟩)
      obtain ⟨i, hi, e⟩ := List.getElem_of_mem hm
      exact c.s.def_ i (by rw [List.getElem?_eq_getElem hi, e])
  have facts := fun base => facts_all (P := P) (w := w) (base := base) (fun {cl X k WW N sc a ca elts kk tpos p' pos} O h1 h2 h3 h4 => hE h1 h2 h3 h4) ok X Gn hf c.more hd k
  refine ⟨spC K (callK p.prg k) "law", fun H a ns hl hq => ?_, fun base _ _ a s H Q E e0 hs => ?_⟩
  · have key : ∀ (ws : W), RV K ([], []) H ws (.ref a) → (ws = .vl (ns.map W.int) ∨ ws = .fzl (ns.map W.int)) → spC K (callK p.prg k) "law" [.ref a] H (fun v _ => v = .bl true) fun _ _ _ => False := by
      intro ws r hi
      obtain ⟨st', e⟩ := law ns hl ws hi
      refine ⟨([], []), [], [ws], ⟨rfl, by simp, (fun b h => nomatch h), fun i b o' h1 h2 => by simp at h1⟩, RVs.one r, ?_⟩
      rw [e]
      intro ad' H' v _ _ rv
      exact rv
    rcases hq with (q | ⟨o, q⟩) | q
    · exact key (.vl (ns.map W.int)) ⟨a, _, rfl, q, ⟨(fun h => nomatch h), (fun h => nomatch h)⟩, ints_rv ns⟩ (.inl rfl)
    · exact key (.fzl (ns.map W.int)) ⟨a, _, rfl, .inl ⟨o, q⟩, ints_rv ns⟩ (.inr rfl)
    · exact key (.fzl (ns.map W.int)) ⟨a, _, rfl, .inr q, ints_rv ns⟩ (.inr rfl)
  · obtain ⟨m1, _, F⟩ := (facts base).fn "law" hgl
    have e : fa = adr p.prg K "law" := by
      rw [hfa] at m1
      cases m1
      rfl
    rw [e]
    exact F callerA [] s H ⟨[.ref a], []⟩ [.ref a] [.ref a] Q E hr e0 (.inl rfl) (.cons rfl .nil) hs
theorem cx_no {P : Program} {w : World} (H : Hp) (s : Shared) (e : Value) (s' : Shared) (z : L2.CX P w [] H s (fun _ _ _ => False) e s') : False := by
  obtain ⟨_, _, _, _, _, _, _, _, _, _, _, _, q⟩ := z
  exact q
end
end Zv

set_option maxRecDepth 100000
/-! Ev15: the compiled bodies as a table. -/
namespace Zv
open PySem
theorem find_map (g : DefZ → FnC) (f : Str) : ∀ (defs : List DefZ), (defs.find? (fun z => decide (z.d.qual = f))).map g = (defs.map fun z => (z.d.qual, g z)).lookup f
  | [] => rfl
  | z :: r => by
    rw [List.map_cons, List.lookup_cons, List.find?_cons]
    by_cases h : z.d.qual = f
    · subst h
      simp
    · have h2 : (f == z.d.qual) = false := by simpa using fun q => h q.symm
      rw [decide_eq_false h, h2]
      exact find_map g f r
theorem fn_find {p : Pz} (f : Str) : p.prg.fn f = (p.defs.map fun z => (z.d.qual, cDef p.tab p.depth z)).lookup f := find_map _ f _
end Zv

set_option maxRecDepth 100000
set_option maxHeartbeats 4000000
/-! Ct0: plain lemmas about the evaluator. -/
namespace Zv
open PySem
theorem beqK_refl {κ : Type} [DecidableEq κ] : ∀ xs : List (κ × W), beqK xs xs = true
  | [] => rfl
  | (k, x) :: r => by simp [beqK, W.beq_refl, beqK_refl r]
theorem Ob.beq_refl (o : Ob) : Ob.beq o o = true := by
  cases o <;> simp [Ob.beq, W.beqs_refl, beqK_refl]
theorem gcOk_app {n : Nat} : ∀ (st g : Sto), gcOk n st (st ++ g) = true
  | [], _ => by simp [gcOk]
  | o :: r, g => by simp [gcOk, Ob.beq_refl, gcOk_app r g]
theorem gcOk_refl {n : Nat} (st : Sto) : gcOk n st st = true := by
  have := gcOk_app (n := n) st []
  rwa [List.append_nil] at this
/-- no references at all -/
def W.Pur (w : W) : Prop := ∀ n, w.rlt n = true
theorem frz_pur {n d : Nat} {st : Sto} {w : W} (h : w.rlt n = true) : frzW n st (d + 1) w = some w := by
  unfold frzW
  rw [if_pos h]
theorem gc_ok {b : Bool} {st g : Sto} {w : W} (h : w.rlt st.length = true) : gcR b st (.ok w (st ++ g)) = .ok w st := by
  simp only [gcR, gcOk_app, if_true, List.take_left]
  cases b with
  | true => simp [h]
  | false => simp [frz_pur h]
theorem gc_ok0 {b : Bool} {st : Sto} {w : W} (h : w.rlt st.length = true) : gcR b st (.ok w st) = .ok w st := by
  have := gc_ok (b := b) (g := []) h
  rwa [List.append_nil] at this
theorem gc_err {b : Bool} {st g : Sto} {x : Exn} (h : W.rlts st.length (x.fs.map (·.2)) = true) : gcR b st (.err x (st ++ g)) = .err x st := by
  simp [gcR, gcOk_app, h]
theorem rlts_map {α : Type} {n : Nat} {f : α → W} (h : ∀ a, (f a).rlt n = true) : ∀ xs : List α, W.rlts n (xs.map f) = true
  | [] => rfl
  | x :: xs => by simp [W.rlts, h x, rlts_map h xs]
theorem rlts_of {n : Nat} : ∀ {xs : List W}, (∀ w ∈ xs, w.rlt n = true) → W.rlts n xs = true
  | [], _ => rfl
  | x :: xs, h => by
    simp only [W.rlts, Bool.and_eq_true]
    exact ⟨h x (by simp), rlts_of fun w m => h w (by simp [m])⟩
/-- a call of a def -/
theorem call_fn {G : Prg} {k : Nat} {f : Str} {F : FnC} {ws : List W} {st : Sto} (h : G.fn f = some F) (hs : F.star = false) (hl : ws.length = F.np) :
    callK G (k + 1) f ws st = gcR (G.keep f) st (fin (exs G (callK G k) F.body (startE F.ns ws) st)) := by
  simp [callK, h, hs, hl]
theorem call_star {G : Prg} {k : Nat} {f : Str} {F : FnC} {ws : List W} {st : Sto} (h : G.fn f = some F) (hs : F.star = true) (hl : F.np ≤ ws.length ∧ ws.length ≤ szL) :
    callK G (k + 1) f ws st = gcR (G.keep f) st (fin (exs G (callK G k) F.body (startE F.ns (ws.take F.np ++ [.tup (ws.drop F.np)])) st)) := by
  simp [callK, h, hs, hl]
/-- a while that goes on as told -/
theorem wh_step {c : En → Sto → R W} {b : En → Sto → RS} {n : Nat} {env env2 : En} {st st1 st2 : Sto} (hc : c env st = .ok (.bl true) st1) (hb : b env st1 = .fl (.nx env2) st2) : whRun c b (n + 1) env st = whRun c b n env2 st2 := by
  simp [whRun, hc, RS.of, truS, hb]
theorem wh_stop {c : En → Sto → R W} {b : En → Sto → RS} {n : Nat} {env : En} {st st1 : Sto} (hc : c env st = .ok (.bl false) st1) : whRun c b (n + 1) env st = .fl (.nx env) st1 := by
  simp [whRun, hc, RS.of, truS]
/-- a comprehension over pure turns -/
theorem lc_map {f : W → Sto → R (Option W)} {I : Itm} {st : Sto} {α : Type} {g : α → W} {h : α → Option W} (hI : I.chk st = true) : ∀ (xs : List α) (acc : List W), (∀ x ∈ xs, f (g x) st = .ok (h x) st) → lcRun f I (xs.map g) acc st = .ok (acc ++ xs.filterMap h) st
  | [], acc, _ => by simp [lcRun, hI]
  | x :: xs, acc, hx => by
    rw [List.map_cons]
    simp only [lcRun, hI, if_true]
    rw [hx x (by simp)]
    simp only [R.bind]
    have ih := fun acc => lc_map (h := h) hI xs acc (fun y m => hx y (by simp [m]))
    cases hh : h x with
    | none => simp only [hh]; rw [ih, List.filterMap_cons_none hh]
    | some w => simp only [hh]; rw [ih, List.filterMap_cons_some hh]; simp
/-! ### loops -/
def whE (G : Prg) (cl : Cl) (c : Ex) (b : List Sm) (n : Nat) (env : En) (st : Sto) : RS := whRun (fun env st => ev G cl c env st) (fun env st => exs G cl b env st) n env st
def forE (G : Prg) (cl : Cl) (t : Tg) (b : List Sm) (I : Itm) (xs : List W) (env : En) (st : Sto) : RS := forRun t (fun env st => exs G cl b env st) I xs env st
def lcE (G : Prg) (cl : Cl) (tg : Tg) (env : En) (cs : List Ex) (e : Ex) (I : Itm) (xs acc : List W) (st : Sto) : R (List W) := lcRun (lcBody tg env (fun env' st2 => evC G cl cs env' st2) (fun env' st3 => ev G cl e env' st3)) I xs acc st
section
variable {G : Prg} {cl : Cl} {env env1 env2 : En} {st st1 st2 : Sto} {c e : Ex} {b : List Sm} {n : Nat} {t : Tg} {I : Itm} {x : W} {xs : List W}
theorem whE_step (hc : ev G cl c env st = .ok (.bl true) st1) (hb : exs G cl b env st1 = .fl (.nx env2) st2) : whE G cl c b (n + 1) env st = whE G cl c b n env2 st2 := wh_step hc hb
theorem whE_stop (hc : ev G cl c env st = .ok (.bl false) st1) : whE G cl c b (n + 1) env st = .fl (.nx env) st1 := wh_stop hc
theorem whE_ret {w : W} (hc : ev G cl c env st = .ok (.bl true) st1) (hb : exs G cl b env st1 = .fl (.rt w) st2) : whE G cl c b (n + 1) env st = .fl (.rt w) st2 := by
  simp [whE, whRun, hc, RS.of, truS, hb]
theorem forE_nil (hI : I.chk st = true) : forE G cl t b I [] env st = .fl (.nx env) st := by
  simp [forE, forRun, hI]
theorem forE_cons (hI : I.chk st = true) (hp : Tg.put t x env = some env1) (hb : exs G cl b env1 st = .fl (.nx env2) st2) : forE G cl t b I (x :: xs) env st = forE G cl t b I xs env2 st2 := by
  simp [forE, forRun, hI, hp, hb]
theorem forE_cont (hI : I.chk st = true) (hp : Tg.put t x env = some env1) (hb : exs G cl b env1 st = .fl (.ct env2) st2) : forE G cl t b I (x :: xs) env st = forE G cl t b I xs env2 st2 := by
  simp [forE, forRun, hI, hp, hb]
theorem forE_ret {w : W} (hI : I.chk st = true) (hp : Tg.put t x env = some env1) (hb : exs G cl b env1 st = .fl (.rt w) st2) : forE G cl t b I (x :: xs) env st = .fl (.rt w) st2 := by
  simp [forE, forRun, hI, hp, hb]
theorem forE_brk (hI : I.chk st = true) (hp : Tg.put t x env = some env1) (hb : exs G cl b env1 st = .fl (.bk env2) st2) : forE G cl t b I (x :: xs) env st = .fl (.nx env2) st2 := by
  simp [forE, forRun, hI, hp, hb]
theorem forE_err {y : Exn} (hI : I.chk st = true) (hp : Tg.put t x env = some env1) (hb : exs G cl b env1 st = .er y env2 st2) : forE G cl t b I (x :: xs) env st = .er y env2 st2 := by
  simp [forE, forRun, hI, hp, hb]
/-- a comprehension without tests over pure turns -/
theorem lcE_map {cs : List Ex} {α : Type} {g h : α → W} (hI : I.chk st = true) (xs : List α) (acc : List W) (hx : ∀ x ∈ xs, ∃ env1, Tg.put t (g x) env = some env1 ∧ evC G cl cs env1 st = .ok true st ∧ ev G cl e env1 st = .ok (h x) st ∧ (h x).rlt st.length = true) : lcE G cl t env cs e I (xs.map g) acc st = .ok (acc ++ xs.map h) st := by
  rw [lcE, lc_map (h := fun x => some (h x)) hI xs acc fun x m => ?_, List.filterMap_eq_map']
  · obtain ⟨env1, e1, e2, e3, e4⟩ := hx x m
    simp only [lcBody, e1, e2, e3, R.bind, gc_ok0 e4, if_true]
/-- with a test -/
theorem lcE_filter {cs : List Ex} {α : Type} {g h : α → W} {p : α → Bool} (hI : I.chk st = true) (xs : List α) (acc : List W) (hx : ∀ x ∈ xs, ∃ env1, Tg.put t (g x) env = some env1 ∧ evC G cl cs env1 st = .ok (p x) st ∧ (p x = true → ev G cl e env1 st = .ok (h x) st ∧ (h x).rlt st.length = true)) : lcE G cl t env cs e I (xs.map g) acc st = .ok (acc ++ (xs.filter p).map h) st := by
  have e0 : ∀ xs : List α, (xs.filter p).map h = xs.filterMap fun x => if p x then some (h x) else none := by
    intro xs
    induction xs with
    | nil => rfl
    | cons x xs ih =>
      cases hp : p x with
      | true => rw [List.filter_cons_of_pos hp, List.map_cons, List.filterMap_cons_some (b := h x) (by simp [hp]), ih]
      | false => rw [List.filter_cons_of_neg (by simp [hp]), List.filterMap_cons_none (by simp [hp]), ih]
  rw [e0]
  rw [lcE]
  refine lc_map hI xs acc fun x m => ?_
  obtain ⟨env1, e1, e2, e3⟩ := hx x m
  cases hp : p x with
  | true =>
    obtain ⟨e4, e5⟩ := e3 hp
    rw [hp] at e2
    simp only [lcBody, e1, e2, e4, R.bind, gc_ok0 e5, if_true]
  | false =>
    rw [hp] at e2
    simp [lcBody, e1, e2, R.bind]
end
/-! ### the evaluator's equations, for simp -/
@[simp] theorem noErr_ok {α : Type} {a : α} {st : Sto} : noErr (.ok a st) = .ok a st := rfl
section
variable {G : Prg} {cl : Cl} {env : En} {st : Sto}
@[simp] theorem q_bindok {α β : Type} {a : α} {f : α → Sto → R β} : (R.ok a st).bind f = f a st := rfl
@[simp] theorem q_binderr {α β : Type} {x : Exn} {f : α → Sto → R β} : (R.err x st : R α).bind f = .err x st := rfl
@[simp] theorem q_bindstuck {α β : Type} {f : α → Sto → R β} : (R.stuck : R α).bind f = .stuck := rfl
@[simp] theorem q_ofok {α : Type} {a : α} {f : α → Sto → RS} : RS.of env (R.ok a st) f = f a st := rfl
@[simp] theorem q_oferr {α : Type} {x : Exn} {f : α → Sto → RS} : RS.of env (R.err x st : R α) f = .er x env st := rfl
@[simp] theorem q_nextnx {f : En → Sto → RS} : (RS.fl (.nx env) st).next f = f env st := rfl
@[simp] theorem q_nextrt {w : W} {f : En → Sto → RS} : (RS.fl (.rt w) st).next f = .fl (.rt w) st := rfl
@[simp] theorem q_nexter {x : Exn} {f : En → Sto → RS} : (RS.er x env st).next f = .er x env st := rfl
@[simp] theorem q_trut {a b : R W} : tru (.bl true) a b = a := rfl
@[simp] theorem q_truf {a b : R W} : tru (.bl false) a b = b := rfl
theorem q_tru {c : Bool} {a b : R W} : tru (.bl c) a b = if c then a else b := by cases c <;> rfl
@[simp] theorem q_truSt {a b : RS} : truS (.bl true) a b = a := rfl
@[simp] theorem q_truSf {a b : RS} : truS (.bl false) a b = b := rfl
theorem q_truS {c : Bool} {a b : RS} : truS (.bl c) a b = if c then a else b := by cases c <;> rfl
@[simp] theorem q_finnx : fin (.fl (.nx env) st) = .ok .non st := rfl
@[simp] theorem q_finrt {w : W} : fin (.fl (.rt w) st) = .ok w st := rfl
@[simp] theorem q_finer {x : Exn} : fin (.er x env st) = .err x st := rfl
@[simp] theorem q_evs0 : evs G cl [] env st = .ok [] st := rfl
@[simp] theorem q_evs1 {e : Ex} {es : List Ex} : evs G cl (e :: es) env st = (ev G cl e env st).bind fun w st1 => (evs G cl es env st1).bind fun ws st2 => .ok (w :: ws) st2 := rfl
@[simp] theorem q_evR0 : evR G cl [] env st = .ok [] st := rfl
@[simp] theorem q_evRp {e : Ex} {es : List Ar} : evR G cl (.p e :: es) env st = (ev G cl e env st).bind fun w st1 => (evR G cl es env st1).bind fun ws st2 => .ok (w :: ws) st2 := rfl
@[simp] theorem q_evRs {e : Ex} {es : List Ar} : evR G cl (.s e :: es) env st = (ev G cl e env st).bind fun w st1 => match items st1 w with
    | some xs => (evR G cl es env st1).bind fun ws st2 => .ok (xs ++ ws) st2
    | none => .stuck := rfl
@[simp] theorem q_evC0 : evC G cl [] env st = .ok true st := rfl
@[simp] theorem q_evC1 {e : Ex} {es : List Ex} : evC G cl (e :: es) env st = (ev G cl e env st).bind fun w st1 => match w with
    | .bl true => evC G cl es env st1
    | .bl false => .ok false st1
    | _ => .stuck := rfl
@[simp] theorem q_evJ0 {acc : Str} : evJ G cl [] acc env st = .ok (.str acc) st := rfl
@[simp] theorem q_evJ1 {e : Ex} {es : List Ex} {acc : Str} : evJ G cl (e :: es) acc env st = (ev G cl e env st).bind fun w st1 => match w with
    | .str y => if (acc ++ y).length ≤ szL then evJ G cl es (acc ++ y) env st1 else .stuck
    | _ => .stuck := rfl
@[simp] theorem q_var {i : Nat} : ev G cl (.var i) env st = match env[i]? with
    | some (some w) => .ok w st
    | _ => .stuck := rfl
@[simp] theorem q_con {w : W} : ev G cl (.con w) env st = .ok w st := rfl
@[simp] theorem q_glo {x : Str} : ev G cl (.glo x) env st = match G.con x with
    | some w => .ok w st
    | none => .stuck := rfl
@[simp] theorem q_op {o : Op} {es : List Ex} : ev G cl (.op o es) env st = (evs G cl es env st).bind fun ws st1 => prim o ws st1 := rfl
@[simp] theorem q_bm {o : Op} {r : Ex} {es : List Ex} : ev G cl (.bm o r es) env st = (ev G cl r env st).bind fun x st0 => if recvOk o x st0 then (evs G cl es env st0).bind fun ws st1 => prim o (x :: ws) st1 else .stuck := rfl
@[simp] theorem q_and {a b : Ex} : ev G cl (.and a b) env st = (ev G cl a env st).bind fun w st1 => tru w (ev G cl b env st1) (.ok (.bl false) st1) := rfl
@[simp] theorem q_or {a b : Ex} : ev G cl (.or a b) env st = (ev G cl a env st).bind fun w st1 => tru w (.ok (.bl true) st1) (ev G cl b env st1) := rfl
@[simp] theorem q_not {a : Ex} : ev G cl (.not a) env st = (ev G cl a env st).bind fun w st1 => tru w (.ok (.bl false) st1) (.ok (.bl true) st1) := rfl
@[simp] theorem q_ite {c a b : Ex} : ev G cl (.ite c a b) env st = (ev G cl c env st).bind fun w st1 => tru w (ev G cl a env st1) (ev G cl b env st1) := rfl
@[simp] theorem q_chain {o p : Op} {a b c : Ex} : ev G cl (.chain o p a b c) env st = (ev G cl a env st).bind fun x st1 => (ev G cl b env st1).bind fun y st2 => (prim o [x, y] st2).bind fun w st3 =>
      tru w ((ev G cl c env st3).bind fun z st4 => prim p [y, z] st4) (.ok (.bl false) st3) := rfl
@[simp] theorem q_cut {a b c : Ex} : ev G cl (.cut a b c) env st = (ev G cl a env st).bind fun x st1 => (ev G cl b env st1).bind fun y st2 => match y with
    | .int _ => (ev G cl c env st2).bind fun z st3 => prim (.slc true true) [x, y, z] st3
    | _ => .stuck := rfl
@[simp] theorem q_call {f : Str} {es : List Ex} : ev G cl (.call f none es) env st = (evs G cl es env st).bind fun ws st1 => cl f ws st1 := rfl
@[simp] theorem q_meth {o : Ex} {m : Str} {es : List Ex} : ev G cl (.meth o m none es) env st = (ev G cl o env st).bind fun x st0 => match fldsOf st0 x with
    | some (C, fs) => if (fs.lookup m).isNone then (match G.meth C m with
        | some f => (evs G cl es env st0).bind fun ws st1 => cl f (x :: ws) st1
        | none => .stuck) else .stuck
    | none => .stuck := rfl
@[simp] theorem q_mk {C : Str} {es : List Ar} : ev G cl (.mk C es) env st = (evR G cl es env st).bind fun ws st1 => match G.init C with
    | some f => (cl f (.ref st1.length :: ws) (st1 ++ [.ins C []])).bind fun r st2 => (match r with
      | .non => mkO (G.frz C) st1 st2
      | _ => .stuck)
    | none => .stuck := rfl
@[simp] theorem q_lsts {m : Bool} {es : List Ar} : ev G cl (.lsts m es) env st = (evR G cl es env st).bind fun ws st1 => prim (.lst m) ws st1 := rfl
@[simp] theorem q_fld {o : Ex} {f : Str} : ev G cl (.fld o f) env st = (ev G cl o env st).bind fun x st1 => match fldsOf st1 x with
    | some (C, fs) => if G.fldOk C f then (match fs.lookup f with
      | some w => .ok w st1
      | none => .stuck) else .stuck
    | none => .stuck := rfl
@[simp] theorem q_isi {e : Ex} {c : Str} : ev G cl (.isi e c) env st = (ev G cl e env st).bind fun w st1 => match typeOfW st1 w with
    | some t => (match G.isi c t with
      | some b => .ok (.bl b) st1
      | none => .stuck)
    | none => .stuck := rfl
@[simp] theorem q_eqo {n : Bool} {a b : Ex} : ev G cl (.eqo n a b) env st = (ev G cl a env st).bind fun x st1 => (ev G cl b env st1).bind fun y st2 => eqT G cl n x y st2 := rfl
@[simp] theorem q_fstr {es : List Ex} : ev G cl (.fstr es) env st = evJ G cl es Str.empty env st := rfl
@[simp] theorem q_lc {m : Bool} {tg : Tg} {own : List Nat} {it : It} {cs : List Ex} {e : Ex} : ev G cl (.lc m tg own it cs e) env st = (evI G cl it env st).bind fun I st1 => if I.xs.length ≤ szL then
      noErr ((lcE G cl tg (wipeE env own) cs e I I.xs [] st1).bind fun ws st5 => mkL m ws st5) else .stuck := rfl
@[simp] theorem q_iseq {e : Ex} : evI G cl (.seq e) env st = (ev G cl e env st).bind seqItm := rfl
@[simp] theorem q_irng1 {e : Ex} : evI G cl (.rng1 e) env st = (ev G cl e env st).bind rngItm1 := rfl
@[simp] theorem q_irng2 {a b : Ex} : evI G cl (.rng2 a b) env st = (ev G cl a env st).bind fun x st1 => (ev G cl b env st1).bind fun y st2 => rngItm2 x y st2 := rfl
@[simp] theorem q_ienum {e : Ex} : evI G cl (.enum e) env st = (ev G cl e env st).bind enumItm := rfl
@[simp] theorem q_izip {a b : Ex} : evI G cl (.zip a b) env st = (ev G cl a env st).bind fun x st1 => (ev G cl b env st1).bind fun y st2 => zipItm x y st2 := rfl
@[simp] theorem q_exs0 : exs G cl [] env st = .fl (.nx env) st := rfl
@[simp] theorem q_exs1 {s : Sm} {ss : List Sm} : exs G cl (s :: ss) env st = (ex G cl s env st).next fun env1 st1 => exs G cl ss env1 st1 := rfl
@[simp] theorem q_set {i : Nat} {e : Ex} : ex G cl (.set i e) env st = .of env (ev G cl e env st) fun w st1 => .fl (.nx (env.set i (some w))) st1 := rfl
@[simp] theorem q_unp {t : Tg} {e : Ex} : ex G cl (.unp t e) env st = .of env (ev G cl e env st) fun w st1 => match Tg.put t w env with
    | some env' => .fl (.nx env') st1
    | none => .stuck := rfl
@[simp] theorem q_ret {e : Ex} : ex G cl (.ret e) env st = .of env (ev G cl e env st) fun w st1 => .fl (.rt w) st1 := rfl
@[simp] theorem q_exp {e : Ex} : ex G cl (.exp e) env st = .of env (ev G cl e env st) fun _ st1 => .fl (.nx env) st1 := rfl
@[simp] theorem q_retn : ex G cl .retn env st = .fl (.rt .non) st := rfl
@[simp] theorem q_pass : ex G cl .pass env st = .fl (.nx env) st := rfl
@[simp] theorem q_brk : ex G cl .brk env st = .fl (.bk env) st := rfl
@[simp] theorem q_cont : ex G cl .cont env st = .fl (.ct env) st := rfl
@[simp] theorem q_ife {c : Ex} {a b : List Sm} : ex G cl (.ife c a b) env st = .of env (ev G cl c env st) fun w st1 => truS w (exs G cl a env st1) (exs G cl b env st1) := rfl
@[simp] theorem q_whl {c : Ex} {b : List Sm} : ex G cl (.whl c b) env st = whE G cl c b G.fuel env st := rfl
@[simp] theorem q_for {t : Tg} {it : It} {b : List Sm} : ex G cl (.forr t it b) env st = .of env (evI G cl it env st) fun I st1 => forE G cl t b I I.xs env st1 := rfl
@[simp] theorem q_aug {i : Nat} {o : Bool} {e : Ex} : ex G cl (.aug i o e) env st = match env[i]? with
    | some (some x) => .of env (ev G cl e env st) fun y st1 => augRun o x y env i st1
    | _ => .stuck := rfl
@[simp] theorem q_fldS {o e : Ex} {f : Str} : ex G cl (.fld o f e) env st = .of env (ev G cl e env st) fun w st1 => .of env (ev G cl o env st1) fun x st2 => match x with
    | .ref i => (match st2[i]? with
      | some (.ins C fs) => if fs.length < 900 && G.fldOk C f then .fl (.nx env) (st2.set i (.ins C (putF f w fs))) else .stuck
      | _ => .stuck)
    | _ => .stuck := rfl
@[simp] theorem q_sub {o i e : Ex} : ex G cl (.sub o i e) env st = .of env (ev G cl e env st) fun w st1 => .of env (ev G cl o env st1) fun x st2 => .of env (ev G cl i env st2) fun y st3 => match x, y with
    | .ref a, .int k => (match st3[a]? with
      | some (.lst xs) => (match L2.ixN xs.length k with
        | some j => .fl (.nx env) (st3.set a (.lst (xs.set j w)))
        | none => .stuck)
      | _ => .stuck)
    | _, _ => .stuck := rfl
@[simp] theorem q_unpS {o i e : Ex} {j : Nat} : ex G cl (.unpS o i j e) env st = .of env (ev G cl e env st) fun w st1 => match w with
    | .tup [w1, w2] => .of env (ev G cl o env st1) fun x st2 => .of env (ev G cl i env st2) fun y st3 => (match x, y with
      | .ref a, .int k => (match st3[a]? with
        | some (.lst xs) => (match L2.ixN xs.length k with
          | some n => .fl (.nx (env.set j (some w2))) (st3.set a (.lst (xs.set n w1)))
          | none => .stuck)
        | _ => .stuck)
      | _, _ => .stuck)
    | _ => .stuck := rfl
/-! prims -/
@[simp] theorem p_addI {a b : Int} : prim .add [.int a, .int b] st = .ok (.int (a + b)) st := rfl
@[simp] theorem p_subI {a b : Int} : prim .sub [.int a, .int b] st = .ok (.int (a - b)) st := rfl
@[simp] theorem p_mulI {a b : Int} : prim .mul [.int a, .int b] st = if mulOk a b then .ok (.int (a * b)) st else .stuck := rfl
@[simp] theorem p_fdivI {a b : Int} : prim .fdiv [.int a, .int b] st = if divOk b then .ok (.int (a / b)) st else .stuck := rfl
@[simp] theorem p_modI {a b : Int} : prim .mod [.int a, .int b] st = if decide (0 < b) then .ok (.int (a % b)) st else .stuck := rfl
@[simp] theorem p_powI {a b : Int} : prim .pow [.int a, .int b] st = if decide (0 ≤ b ∧ b ≤ 1000 ∧ a.natAbs < 1000) then .ok (.int (a ^ b.toNat)) st else .stuck := rfl
@[simp] theorem p_negI {a : Int} : prim .neg [.int a] st = .ok (.int (-a)) st := rfl
@[simp] theorem p_ltI {a b : Int} : prim .lt [.int a, .int b] st = .ok (.bl (decide (a < b))) st := rfl
@[simp] theorem p_leI {a b : Int} : prim .le [.int a, .int b] st = .ok (.bl (decide (a ≤ b))) st := rfl
@[simp] theorem p_gtI {a b : Int} : prim .gt [.int a, .int b] st = .ok (.bl (decide (a > b))) st := rfl
@[simp] theorem p_geI {a b : Int} : prim .ge [.int a, .int b] st = .ok (.bl (decide (a ≥ b))) st := rfl
@[simp] theorem p_max {a b : Int} : prim .max2 [.int a, .int b] st = .ok (.int (if b > a then b else a)) st := rfl
@[simp] theorem p_min {a b : Int} : prim .min2 [.int a, .int b] st = .ok (.int (if b < a then b else a)) st := rfl
@[simp] theorem p_abs {a : Int} : prim .abs [.int a] st = .ok (.int (if a < 0 then -a else a)) st := rfl
@[simp] theorem p_int {a : Int} : prim .int [.int a] st = .ok (.int a) st := rfl
@[simp] theorem p_intb {a : Bool} : prim .int [.bl a] st = .ok (.int (if a then 1 else 0)) st := rfl
@[simp] theorem p_divmod {a b : Int} : prim .divmod [.int a, .int b] st = if divOk b then .ok (.tup [.int (a / b), .int (a % b)]) st else .stuck := rfl
@[simp] theorem p_ixT {xs : List W} {i : Int} : prim .ix [.tup xs, .int i] st = match L2.atI xs i with
      | some w => .ok w st
      | none => .stuck := rfl
@[simp] theorem p_ixL {xs : List W} {i : Int} : prim .ix [.vl xs, .int i] st = match L2.atI xs i with
      | some w => .ok w st
      | none => .stuck := rfl
@[simp] theorem p_ixF {xs : List W} {i : Int} : prim .ix [.fzl xs, .int i] st = match L2.atI xs i with
      | some w => .ok w st
      | none => .stuck := rfl
@[simp] theorem p_tup {ws : List W} : prim .tup ws st = if ws.length ≤ szL then .ok (.tup ws) st else .stuck := rfl
@[simp] theorem p_lst {ws : List W} {m : Bool} : prim (.lst m) ws st = if ws.length ≤ szL then mkL m ws st else .stuck := rfl
@[simp] theorem p_lenT {xs : List W} : prim .len [.tup xs] st = .ok (.int xs.length) st := rfl
@[simp] theorem p_lenL {xs : List W} : prim .len [.vl xs] st = .ok (.int xs.length) st := rfl
@[simp] theorem p_lenF {xs : List W} : prim .len [.fzl xs] st = .ok (.int xs.length) st := rfl
@[simp] theorem p_tupleL {xs : List W} : prim .tuple [.vl xs] st = .ok (.tup xs) st := rfl
@[simp] theorem p_tupleT {xs : List W} : prim .tuple [.tup xs] st = .ok (.tup xs) st := rfl
theorem p_join {a b : W} : prim .join [a, b] st = pJoin a b st := rfl
theorem p_append {a b : W} : prim .append [a, b] st = pAppend a b st := rfl
theorem p_extend {a b : W} : prim .extend [a, b] st = pExtend a b st := rfl
theorem p_split {a b : W} : prim .split [a, b] st = pSplit a b st := rfl
theorem p_add {a b : W} : prim .add [a, b] st = pAdd a b st := rfl
theorem p_mul {a b : W} : prim .mul [a, b] st = pMul a b st := rfl
theorem p_rev {a : W} : prim .rev [a] st = pRev a st := rfl
theorem p_fmt {a : W} : prim .fmt [a] st = pFmt a st := rfl
theorem p_str {a : W} : prim .str [a] st = pFmt a st := rfl
theorem p_in {a b : W} : prim .in_ [a, b] st = pIn false a b st := rfl
theorem p_notin {a b : W} : prim .notin [a, b] st = pIn true a b st := rfl
@[simp] theorem p_all {w : W} : prim .all [w] st = pBls (fun bs => bs.all id) w st := rfl
@[simp] theorem p_any {w : W} : prim .any [w] st = pBls (fun bs => bs.any id) w st := rfl
@[simp] theorem p_isN {w : W} : prim .isN [w] st = pIsN false w st := rfl
@[simp] theorem p_isnotN {w : W} : prim .isnotN [w] st = pIsN true w st := rfl
@[simp] theorem mkLf {xs : List W} : mkL false xs st = .ok (.vl xs) st := rfl
@[simp] theorem mkLt {xs : List W} : mkL true xs st = .ok (.ref st.length) (st ++ [.lst xs]) := rfl
@[simp] theorem seqT {xs : List W} : seqItm (.tup xs) st = .ok ⟨xs, []⟩ st := rfl
@[simp] theorem seqL {xs : List W} : seqItm (.vl xs) st = .ok ⟨xs, []⟩ st := rfl
@[simp] theorem seqF {xs : List W} : seqItm (.fzl xs) st = .ok ⟨xs, []⟩ st := rfl
@[simp] theorem enumT {xs : List W} : enumItm (.tup xs) st = .ok ⟨enumW 0 xs, []⟩ st := rfl
@[simp] theorem enumL {xs : List W} : enumItm (.vl xs) st = .ok ⟨enumW 0 xs, []⟩ st := rfl
@[simp] theorem chk0 {xs : List W} : Itm.chk ⟨xs, []⟩ st = true := rfl
@[simp] theorem put_nm {i : Nat} {w : W} : Tg.put (.nm i) w env = some (env.set i (some w)) := rfl
@[simp] theorem put_tp {ts : List Tg} {ws : List W} : Tg.put (.tp ts) (.tup ws) env = Tg.puts ts ws env := rfl
@[simp] theorem puts0 : Tg.puts [] [] env = some env := rfl
@[simp] theorem puts1 {t : Tg} {ts : List Tg} {w : W} {ws : List W} : Tg.puts (t :: ts) (w :: ws) env = match Tg.put t w env with
    | some env' => Tg.puts ts ws env'
    | none => none := rfl
@[simp] theorem ty_int {i : Int} : typeOfW st (.int i) = some (.inl "int") := rfl
@[simp] theorem ty_bl {i : Bool} : typeOfW st (.bl i) = some (.inl "bool") := rfl
@[simp] theorem ty_str {i : Str} : typeOfW st (.str i) = some (.inl "str") := rfl
@[simp] theorem ty_non : typeOfW st .non = some (.inl "NoneType") := rfl
@[simp] theorem ty_tup {xs : List W} : typeOfW st (.tup xs) = some (.inl "tuple") := rfl
@[simp] theorem ty_vl {xs : List W} : typeOfW st (.vl xs) = some (.inl "list") := rfl
@[simp] theorem ty_obj {C : Str} {ns : List Str} {xs : List W} : typeOfW st (.obj C ns xs) = some (.inr C) := rfl
@[simp] theorem fl_obj {C : Str} {ns : List Str} {xs : List W} : fldsOf st (.obj C ns xs) = some (C, ns.zip xs) := rfl
theorem at_nat {xs : List W} {n : Nat} (h : n < xs.length) : L2.atI xs (n : Int) = xs[n]? := by
  simp only [L2.atI, L2.ixN]
  rw [if_pos (by omega), if_pos (by omega)]
  rfl
@[simp] theorem at0 {x : W} {xs : List W} : L2.atI (x :: xs) 0 = some x := at_nat (n := 0) (by simp)
@[simp] theorem at1 {x y : W} {xs : List W} : L2.atI (x :: y :: xs) 1 = some y := at_nat (n := 1) (by simp)
@[simp] theorem at2 {x y z : W} {xs : List W} : L2.atI (x :: y :: z :: xs) 2 = some z := at_nat (n := 2) (by simp)
@[simp] theorem at3 {x y z u : W} {xs : List W} : L2.atI (x :: y :: z :: u :: xs) 3 = some u := at_nat (n := 3) (by simp)
@[simp] theorem start_ {n : Nat} {ws : List W} : startE n ws = ws.map some ++ List.replicate (n - ws.length) none := rfl
end
end Zv

set_option maxRecDepth 100000
set_option maxHeartbeats 4000000
/-! CtU: two programs that agree on what is used. -/
namespace Zv
open PySem
structure Us where
  fn : Str → Bool
  con : Str → Bool
  meth : Str → Bool
  cls : Str → Bool
  isi : Str → Bool
mutual
def Ex.use (U : Us) : Ex → Bool
  | .bad => true
  | .var _ => true
  | .con _ => true
  | .glo x => U.con x
  | .op _ es => Ex.uses U es
  | .bm _ r es => r.use U && Ex.uses U es
  | .and a b => a.use U && b.use U
  | .or a b => a.use U && b.use U
  | .not a => a.use U
  | .ite c a b => c.use U && (a.use U && b.use U)
  | .chain _ _ a b c => a.use U && (b.use U && c.use U)
  | .cut a b c => a.use U && (b.use U && c.use U)
  | .call f _ es => U.fn f && Ex.uses U es
  | .meth o m _ es => o.use U && (U.meth m && Ex.uses U es)
  | .mk C es => U.cls C && Ex.usesR U es
  | .lsts _ es => Ex.usesR U es
  | .fld o _ => o.use U
  | .isi e c => e.use U && U.isi c
  | .eqo _ a b => a.use U && b.use U
  | .stro e => e.use U
  | .fstr es => Ex.uses U es
  | .lc _ _ _ it cs e => it.use U && (Ex.uses U cs && e.use U)
def Ex.uses (U : Us) : List Ex → Bool
  | [] => true
  | e :: es => e.use U && Ex.uses U es
def Ex.usesR (U : Us) : List Ar → Bool
  | [] => true
  | .p e :: es => e.use U && Ex.usesR U es
  | .s e :: es => e.use U && Ex.usesR U es
def It.use (U : Us) : It → Bool
  | .seq e => e.use U
  | .rng1 e => e.use U
  | .rng2 a b => a.use U && b.use U
  | .rng3 a b c => a.use U && (b.use U && c.use U)
  | .enum e => e.use U
  | .zip a b => a.use U && b.use U
end
mutual
def Sm.use (U : Us) : Sm → Bool
  | .set _ e => e.use U
  | .par _ es => Ex.uses U es
  | .unp _ e => e.use U
  | .fld o _ e => o.use U && e.use U
  | .sub o i e => o.use U && (i.use U && e.use U)
  | .aug _ _ e => e.use U
  | .unpS o i _ e => o.use U && (i.use U && e.use U)
  | .exp e => e.use U
  | .ret e => e.use U
  | .retn => true
  | .pass => true
  | .brk => true
  | .cont => true
  | .never => true
  | .ife c a b => c.use U && (Sm.uses U a && Sm.uses U b)
  | .whl c b => c.use U && Sm.uses U b
  | .forr _ it b => it.use U && Sm.uses U b
  | .raise _ _ => true
def Sm.uses (U : Us) : List Sm → Bool
  | [] => true
  | s :: ss => s.use U && Sm.uses U ss
end
structure Agr (U : Us) (G G' : Prg) : Prop where
  fn : ∀ f, U.fn f = true → G.fn f = G'.fn f ∧ G.keep f = G'.keep f ∧ ∀ F, G.fn f = some F → Sm.uses U F.body = true
  con : ∀ x, U.con x = true → G.con x = G'.con x
  meth : ∀ m, U.meth m = true → ∀ C, G.meth C m = G'.meth C m ∧ ∀ f, G.meth C m = some f → U.fn f = true
  init : ∀ C, U.cls C = true → G.init C = G'.init C ∧ G.frz C = G'.frz C ∧ ∀ f, G.init C = some f → U.fn f = true
  isi : ∀ c, U.isi c = true → ∀ t, G.isi c t = G'.isi c t
  fld : ∀ C f, G.fldOk C f = G'.fldOk C f
  eqm : ∀ C, G.eqm C = G'.eqm C ∧ ∀ f, G.eqm C = some f → U.fn f = true
  strm : ∀ C, G.strm C = G'.strm C ∧ ∀ f, G.strm C = some f → U.fn f = true
  fuel : G.fuel = G'.fuel
section
variable {U : Us} {G G' : Prg} (A : Agr U G G') {cl cl' : Cl} (hc : ∀ f, U.fn f = true → cl f = cl' f)
include A hc
theorem eqI_agr (x y : W) (st : Sto) : eqI G cl x y st = eqI G' cl' x y st := by
  unfold eqI
  cases fldsOf st x with
  | none => rfl
  | some p =>
    cases fldsOf st y with
    | none => rfl
    | some q =>
      obtain ⟨C, fs⟩ := p
      obtain ⟨D, gs⟩ := q
      simp only
      split
      · rw [← (A.eqm C).1]
        cases h : G.eqm C with
        | none => rfl
        | some f => simp only; rw [hc f ((A.eqm C).2 f h)]
      · rfl
theorem eqO_agr (x y : W) (st : Sto) : eqO G cl x y st = eqO G' cl' x y st := by
  unfold eqO
  rw [eqI_agr A hc]
theorem eqG_agr : ∀ (n : Nat) (x y : W) (st : Sto), eqG G cl n x y st = eqG G' cl' n x y st
  | 0, _, _, _ => rfl
  | n + 1, x, y, st => by
    have e : eqG G cl n = eqG G' cl' n := by funext x y st; exact eqG_agr n x y st
    unfold eqG
    cases dataEq st x y with
    | some b => rfl
    | none =>
      simp only
      split
      · rw [e]
      · split
        · rfl
        · exact eqI_agr A hc _ _ _
      · exact eqO_agr A hc _ _ _
      · rfl
theorem eqT_agr (neg : Bool) (x y : W) (st : Sto) : eqT G cl neg x y st = eqT G' cl' neg x y st := by
  unfold eqT
  congr 1
  unfold eqT0
  cases dataEq st x y with
  | some b => rfl
  | none =>
    simp only
    split
    · rw [show eqG G cl eqDp = eqG G' cl' eqDp by funext x y st; exact eqG_agr A hc _ x y st]
    · split
      · rfl
      · exact eqI_agr A hc _ _ _
    · split
      · rfl
      · exact eqI_agr A hc _ _ _
    · rfl
mutual
theorem ev_agr : ∀ (e : Ex), e.use U = true → ∀ (env : En) (st : Sto), ev G cl e env st = ev G' cl' e env st
  | .bad, _, env, st => by simp only [ev]
  | .var _, _, env, st => by simp only [ev]
  | .con _, _, env, st => by simp only [ev]
  | .glo x, h, env, st => by
    simp only [Ex.use] at h
    simp only [ev, A.con x h]
  | .op o es, h, env, st => by
    simp only [Ex.use] at h
    simp only [ev, evs_agr es h]
  | .bm o r es, h, env, st => by
    simp only [Ex.use, Bool.and_eq_true] at h
    simp only [ev, ev_agr r h.1, evs_agr es h.2]
  | .and a b, h, env, st => by
    simp only [Ex.use, Bool.and_eq_true] at h
    simp only [ev, ev_agr a h.1, ev_agr b h.2]
  | .or a b, h, env, st => by
    simp only [Ex.use, Bool.and_eq_true] at h
    simp only [ev, ev_agr a h.1, ev_agr b h.2]
  | .not a, h, env, st => by
    simp only [Ex.use] at h
    simp only [ev, ev_agr a h]
  | .ite c a b, h, env, st => by
    simp only [Ex.use, Bool.and_eq_true] at h
    simp only [ev, ev_agr c h.1, ev_agr a h.2.1, ev_agr b h.2.2]
  | .chain o p a b c, h, env, st => by
    simp only [Ex.use, Bool.and_eq_true] at h
    simp only [ev, ev_agr a h.1, ev_agr b h.2.1, ev_agr c h.2.2]
  | .cut a b c, h, env, st => by
    simp only [Ex.use, Bool.and_eq_true] at h
    simp only [ev, ev_agr a h.1, ev_agr b h.2.1, ev_agr c h.2.2]
  | .call f p es, h, env, st => by
    simp only [Ex.use, Bool.and_eq_true] at h
    simp only [ev, evs_agr es h.2, hc f h.1]
  | .meth o m p es, h, env, st => by
    simp only [Ex.use, Bool.and_eq_true] at h
    simp only [ev, ev_agr o h.1]
    congr 1
    funext x st0
    cases fldsOf st0 x with
    | none => rfl
    | some q =>
      obtain ⟨C, fs⟩ := q
      obtain ⟨e1, e2⟩ := A.meth m h.2.1 C
      simp only
      rw [← e1]
      cases hm : G.meth C m with
      | none => rfl
      | some f => simp only [evs_agr es h.2.2, hc f (e2 f hm)]
  | .mk C es, h, env, st => by
    simp only [Ex.use, Bool.and_eq_true] at h
    simp only [ev, evR_agr es h.2]
    obtain ⟨e1, e2, e3⟩ := A.init C h.1
    rw [← e1, ← e2]
    cases hm : G.init C with
    | none => rfl
    | some f => simp only [hc f (e3 f hm)]
  | .lsts m es, h, env, st => by
    simp only [Ex.use] at h
    simp only [ev, evR_agr es h]
  | .fld o f, h, env, st => by
    simp only [Ex.use] at h
    simp only [ev, ev_agr o h, A.fld]
  | .isi e c, h, env, st => by
    simp only [Ex.use, Bool.and_eq_true] at h
    simp only [ev, ev_agr e h.1, A.isi c h.2]
  | .eqo n a b, h, env, st => by
    simp only [Ex.use, Bool.and_eq_true] at h
    simp only [ev, ev_agr a h.1, ev_agr b h.2, eqT_agr A hc]
  | .stro e, h, env, st => by
    simp only [Ex.use] at h
    simp only [ev, ev_agr e h]
    congr 1
    funext x st1
    cases fldsOf st1 x with
    | none => rfl
    | some q =>
      obtain ⟨C, fs⟩ := q
      obtain ⟨e1, e2⟩ := A.strm C
      simp only
      rw [← e1]
      cases hm : G.strm C with
      | none => rfl
      | some f => simp only [hc f (e2 f hm)]
  | .fstr es, h, env, st => by
    simp only [Ex.use] at h
    simp only [ev, evJ_agr es h]
  | .lc m tg own it cs e, h, env, st => by
    simp only [Ex.use, Bool.and_eq_true] at h
    simp only [ev, evI_agr it h.1, evC_agr cs h.2.1, ev_agr e h.2.2]
theorem evs_agr : ∀ (es : List Ex), Ex.uses U es = true → ∀ (env : En) (st : Sto), evs G cl es env st = evs G' cl' es env st
  | [], _, env, st => by simp only [evs]
  | e :: es, h, env, st => by
    simp only [Ex.uses, Bool.and_eq_true] at h
    simp only [evs, ev_agr e h.1, evs_agr es h.2]
theorem evJ_agr : ∀ (es : List Ex), Ex.uses U es = true → ∀ (acc : Str) (env : En) (st : Sto), evJ G cl es acc env st = evJ G' cl' es acc env st
  | [], _, acc, env, st => by simp only [evJ]
  | e :: es, h, acc, env, st => by
    simp only [Ex.uses, Bool.and_eq_true] at h
    simp only [evJ, ev_agr e h.1, evJ_agr es h.2]
theorem evR_agr : ∀ (es : List Ar), Ex.usesR U es = true → ∀ (env : En) (st : Sto), evR G cl es env st = evR G' cl' es env st
  | [], _, env, st => by simp only [evR]
  | .p e :: es, h, env, st => by
    simp only [Ex.usesR, Bool.and_eq_true] at h
    simp only [evR, ev_agr e h.1, evR_agr es h.2]
  | .s e :: es, h, env, st => by
    simp only [Ex.usesR, Bool.and_eq_true] at h
    simp only [evR, ev_agr e h.1, evR_agr es h.2]
theorem evC_agr : ∀ (es : List Ex), Ex.uses U es = true → ∀ (env : En) (st : Sto), evC G cl es env st = evC G' cl' es env st
  | [], _, env, st => by simp only [evC]
  | e :: es, h, env, st => by
    simp only [Ex.uses, Bool.and_eq_true] at h
    simp only [evC, ev_agr e h.1, evC_agr es h.2]
theorem evI_agr : ∀ (it : It), it.use U = true → ∀ (env : En) (st : Sto), evI G cl it env st = evI G' cl' it env st
  | .seq e, h, env, st => by
    simp only [It.use] at h
    simp only [evI, ev_agr e h]
  | .rng1 e, h, env, st => by
    simp only [It.use] at h
    simp only [evI, ev_agr e h]
  | .rng2 a b, h, env, st => by
    simp only [It.use, Bool.and_eq_true] at h
    simp only [evI, ev_agr a h.1, ev_agr b h.2]
  | .rng3 a b c, h, env, st => by
    simp only [It.use, Bool.and_eq_true] at h
    simp only [evI, ev_agr a h.1, ev_agr b h.2.1, ev_agr c h.2.2]
  | .enum e, h, env, st => by
    simp only [It.use] at h
    simp only [evI, ev_agr e h]
  | .zip a b, h, env, st => by
    simp only [It.use, Bool.and_eq_true] at h
    simp only [evI, ev_agr a h.1, ev_agr b h.2]
end
mutual
theorem ex_agr : ∀ (s : Sm), s.use U = true → ∀ (env : En) (st : Sto), ex G cl s env st = ex G' cl' s env st
  | .set _ e, h, env, st => by
    simp only [Sm.use] at h
    simp only [ex, ev_agr A hc e h]
  | .par _ es, h, env, st => by
    simp only [Sm.use] at h
    simp only [ex, evs_agr A hc es h]
  | .unp _ e, h, env, st => by
    simp only [Sm.use] at h
    simp only [ex, ev_agr A hc e h]
  | .fld o f e, h, env, st => by
    simp only [Sm.use, Bool.and_eq_true] at h
    simp only [ex, ev_agr A hc o h.1, ev_agr A hc e h.2, A.fld]
  | .sub o i e, h, env, st => by
    simp only [Sm.use, Bool.and_eq_true] at h
    simp only [ex, ev_agr A hc o h.1, ev_agr A hc i h.2.1, ev_agr A hc e h.2.2]
  | .aug i o e, h, env, st => by
    simp only [Sm.use] at h
    simp only [ex, ev_agr A hc e h]
  | .unpS o i j e, h, env, st => by
    simp only [Sm.use, Bool.and_eq_true] at h
    simp only [ex, ev_agr A hc o h.1, ev_agr A hc i h.2.1, ev_agr A hc e h.2.2]
  | .exp e, h, env, st => by
    simp only [Sm.use] at h
    simp only [ex, ev_agr A hc e h]
  | .ret e, h, env, st => by
    simp only [Sm.use] at h
    simp only [ex, ev_agr A hc e h]
  | .retn, _, env, st => by simp only [ex]
  | .pass, _, env, st => by simp only [ex]
  | .brk, _, env, st => by simp only [ex]
  | .cont, _, env, st => by simp only [ex]
  | .never, _, env, st => by simp only [ex]
  | .ife c a b, h, env, st => by
    simp only [Sm.use, Bool.and_eq_true] at h
    simp only [ex, ev_agr A hc c h.1, exs_agr a h.2.1, exs_agr b h.2.2]
  | .whl c b, h, env, st => by
    simp only [Sm.use, Bool.and_eq_true] at h
    simp only [ex, ev_agr A hc c h.1, exs_agr b h.2, A.fuel]
  | .forr t it b, h, env, st => by
    simp only [Sm.use, Bool.and_eq_true] at h
    simp only [ex, evI_agr A hc it h.1, exs_agr b h.2]
  | .raise _ _, _, env, st => by simp only [ex]
theorem exs_agr : ∀ (ss : List Sm), Sm.uses U ss = true → ∀ (env : En) (st : Sto), exs G cl ss env st = exs G' cl' ss env st
  | [], _, env, st => by simp only [exs]
  | s :: ss, h, env, st => by
    simp only [Sm.uses, Bool.and_eq_true] at h
    simp only [exs, ex_agr s h.1, exs_agr ss h.2]
end
end
theorem call_agr {U : Us} {G G' : Prg} (A : Agr U G G') : ∀ (k : Nat) (f : Str), U.fn f = true → callK G k f = callK G' k f
  | 0, f, h => rfl
  | k + 1, f, h => by
    funext ws st
    obtain ⟨e1, e2, e3⟩ := A.fn f h
    simp only [callK, ← e1, ← e2]
    cases hf : G.fn f with
    | none => rfl
    | some F => simp only [exs_agr A (call_agr A k) F.body (e3 F hf)]
end Zv

set_option maxRecDepth 100000
/-! CtB: the program's defs, compiled. -/
namespace Zv
open PySem
def F_is_integer : FnC := { np := 1, star := false, ns := 1, body := [.ret (.and (.isi (.var 0) "int") (.not (.isi (.var 0) "bool")))] }
def F_is_count : FnC := { np := 1, star := false, ns := 1, body := [.ret (.and (.call "is_integer" none [.var 0]) (.op .ge [.var 0, .con (.int (0))]))] }
def F_is_number : FnC := { np := 1, star := false, ns := 1, body := [.ife (.not (.isi (.var 0) "tuple")) [.ret (.call "is_integer" none [.var 0])] [], .ret (.and (.eqo false (.op .len [.var 0]) (.con (.int (2)))) (.and (.call "is_integer" none [.op .ix [.var 0, .con (.int (0))]]) (.and (.call "is_integer" none [.op .ix [.var 0, .con (.int (1))]]) (.op .ge [.op .ix [.var 0, .con (.int (1))], .con (.int (1))]))))] }
def F_common_divisor : FnC := { np := 2, star := false, ns := 2, body := [.whl (.op .gt [.var 1, .con (.int (0))]) [.unp (.tp [.nm 0, .nm 1]) (.op .tup [.var 1, .op .mod [.op .int [.var 0], .op .int [.var 1]]])], .ret (.var 0)] }
def F_reduced : FnC := { np := 2, star := false, ns := 3, body := [.set 2 (.call "common_divisor" none [.op .abs [.var 0], .var 1]), .ret (.op .tup [.op .fdiv [.var 0, .var 2], .op .fdiv [.var 1, .var 2]])] }
def F_exact : FnC := { np := 1, star := false, ns := 1, body := [.ret (.ite (.isi (.var 0) "tuple") (.call "reduced" none [.op .ix [.var 0, .con (.int (0))], .op .ix [.var 0, .con (.int (1))]]) (.op .tup [.var 0, .con (.int (1))]))] }
def F_less : FnC := { np := 2, star := false, ns := 2, body := [.ret (.op .lt [.op .mul [.op .ix [.var 0, .con (.int (0))], .op .ix [.var 1, .con (.int (1))]], .op .mul [.op .ix [.var 1, .con (.int (0))], .op .ix [.var 0, .con (.int (1))]]])] }
def F_plus : FnC := { np := 2, star := false, ns := 2, body := [.ret (.call "reduced" none [.op .add [.op .mul [.op .ix [.var 0, .con (.int (0))], .op .ix [.var 1, .con (.int (1))]], .op .mul [.op .ix [.var 1, .con (.int (0))], .op .ix [.var 0, .con (.int (1))]]], .op .mul [.op .ix [.var 0, .con (.int (1))], .op .ix [.var 1, .con (.int (1))]]])] }
def F_minus : FnC := { np := 2, star := false, ns := 2, body := [.ret (.call "plus" none [.var 0, .op .tup [.op .neg [.op .ix [.var 1, .con (.int (0))]], .op .ix [.var 1, .con (.int (1))]]])] }
def F_times : FnC := { np := 2, star := false, ns := 2, body := [.ret (.call "reduced" none [.op .mul [.op .ix [.var 0, .con (.int (0))], .op .ix [.var 1, .con (.int (0))]], .op .mul [.op .ix [.var 0, .con (.int (1))], .op .ix [.var 1, .con (.int (1))]]])] }
def F_over : FnC := { np := 2, star := false, ns := 2, body := [.ret (.call "reduced" none [.op .mul [.op .ix [.var 0, .con (.int (0))], .op .ix [.var 1, .con (.int (1))]], .op .mul [.op .ix [.var 0, .con (.int (1))], .op .ix [.var 1, .con (.int (0))]]])] }
def F_total : FnC := { np := 1, star := false, ns := 3, body := [.set 1 (.op .tup [.con (.int (0)), .con (.int (1))]), .forr (.nm 2) (.seq (.var 0)) [.set 1 (.call "plus" none [.var 1, .var 2])], .ret (.var 1)] }
def F_least_of : FnC := { np := 1, star := false, ns := 3, body := [.set 1 (.op .ix [.var 0, .con (.int (0))]), .forr (.nm 2) (.seq (.var 0)) [.ife (.call "less" none [.var 2, .var 1]) [.set 1 (.var 2)] []], .ret (.var 1)] }
def F_is_positive : FnC := { np := 1, star := false, ns := 1, body := [.ret (.and (.call "is_number" none [.var 0]) (.op .gt [.op .ix [.call "exact" none [.var 0], .con (.int (0))], .con (.int (0))]))] }
def F_digits_of : FnC := { np := 1, star := false, ns := 4, body := [.unp (.tp [.nm 1, .nm 2]) (.op .tup [.op (.lst true) [], .op .abs [.var 0]]), .whl (.op .ge [.var 2, .glo "WIDE"]) [.set 3 (.op .fmt [.op .mod [.op .int [.var 2], .glo "WIDE"]]), .exp (.bm .append (.var 1) [.op .add [.op .mul [.con (.str "0"), .op .sub [.glo "WIDE_DIGITS", .op .len [.var 3]]], .var 3]]), .set 2 (.op .fdiv [.var 2, .glo "WIDE"])], .exp (.bm .append (.var 1) [.op .fmt [.var 2]]), .ret (.op .add [.ite (.op .lt [.var 0, .con (.int (0))]) (.con (.str "-")) (.con (.str "")), .bm .join (.con (.str "")) [.op .rev [.var 1]]])] }
def F_exact_text : FnC := { np := 1, star := false, ns := 1, body := [.ret (.ite (.eqo false (.op .ix [.var 0, .con (.int (1))]) (.con (.int (1)))) (.call "digits_of" none [.op .ix [.var 0, .con (.int (0))]]) (.fstr [.op .fmt [.call "digits_of" none [.op .ix [.var 0, .con (.int (0))]]], .con (.str "/"), .op .fmt [.call "digits_of" none [.op .ix [.var 0, .con (.int (1))]]]]))] }
def F_count_in : FnC := { np := 1, star := false, ns := 3, body := [.ife (.or (.eqo false (.var 0) (.con (.str ""))) (.op .any [.lc false (.nm 1) [1] (.seq (.var 0)) [] (.op .notin [.var 1, .glo "DIGITS"])])) [.ret (.con (.non))] [], .ife (.and (.eqo false (.op .ix [.var 0, .con (.int (0))]) (.con (.str "0"))) (.eqo true (.var 0) (.con (.str "0")))) [.ret (.con (.non))] [], .set 2 (.con (.int (0))), .forr (.nm 1) (.seq (.var 0)) [.set 2 (.op .add [.op .mul [.con (.int (10)), .var 2], .bm .sindex (.glo "DIGITS") [.var 1]])], .ret (.var 2)] }
def F_exact_in : FnC := { np := 1, star := false, ns := 3, body := [.set 1 (.lc false (.nm 2) [2] (.seq (.bm .split (.var 0) [.con (.str "/")])) [] (.call "count_in" none [.var 2])), .ife (.or (.op .in_ [.con (.non), .var 1]) (.op .gt [.op .len [.var 1], .con (.int (2))])) [.ret (.con (.non))] [], .ife (.eqo false (.op .len [.var 1]) (.con (.int (1)))) [.ret (.op .tup [.op .ix [.var 1, .con (.int (0))], .con (.int (1))])] [], .ife (.or (.op .lt [.op .ix [.var 1, .con (.int (1))], .con (.int (2))]) (.eqo true (.call "reduced" none [.op .ix [.var 1, .con (.int (0))], .op .ix [.var 1, .con (.int (1))]]) (.op .tup [.op .ix [.var 1, .con (.int (0))], .op .ix [.var 1, .con (.int (1))]]))) [.ret (.con (.non))] [], .ret (.op .tup [.op .ix [.var 1, .con (.int (0))], .op .ix [.var 1, .con (.int (1))]])] }
def F_is_offset : FnC := { np := 1, star := false, ns := 1, body := [.ret (.and (.call "is_number" none [.var 0]) (.chain .le .le (.con (.int (0))) (.op .ix [.call "exact" none [.var 0], .con (.int (0))]) (.op .ix [.call "exact" none [.var 0], .con (.int (1))])))] }
def F_first_bad_mark : FnC := { np := 2, star := false, ns := 6, body := [.set 2 (.op .tup [.op .neg [.con (.int (1))], .con (.int (1))]), .forr (.tp [.nm 3, .nm 4]) (.enum (.var 1)) [.ife (.or (.not (.call "is_number" none [.var 4])) (.or (.op .lt [.op .ix [.call "exact" none [.var 4], .con (.int (0))], .con (.int (0))]) (.not (.call "less" none [.var 2, .call "exact" none [.var 4]])))) [.ret (.var 3)] [], .set 2 (.call "exact" none [.var 4])], .set 5 (.op .len [.var 1]), .ret (.ite (.and (.op .gt [.var 5, .con (.int (0))]) (.not (.call "less" none [.var 2, .call "plus" none [.op .tup [.var 5, .con (.int (1))], .var 0]]))) (.op .sub [.var 5, .con (.int (1))]) (.con (.non)))] }
def F_Rule___init__ : FnC := { np := 2, star := true, ns := 5, body := [.ife (.not (.call "is_offset" none [.var 1])) [.never] [], .ife (.op .gt [.op .len [.var 2], .glo "MOST_HEAD"]) [.never] [], .set 3 (.call "first_bad_mark" none [.call "exact" none [.var 1], .var 2]), .ife (.op .isnotN [.var 3]) [.never] [], .fld (.var 0) "offset" (.call "exact" none [.var 1]), .fld (.var 0) "head" (.op .tuple [.lc false (.nm 4) [4] (.seq (.var 2)) [] (.call "exact" none [.var 4])]), .fld (.var 0) "words" (.bm .join (.con (.str " ")) [.lsts false [.s (.lc false (.nm 4) [4] (.seq (.fld (.var 0) "head")) [] (.call "exact_text" none [.var 4])), .p (.con (.str "|")), .p (.call "exact_text" none [.fld (.var 0) "offset"])]])] }
def F_Rule_at : FnC := { np := 2, star := false, ns := 2, body := [.ret (.ite (.op .lt [.var 1, .op .len [.fld (.var 0) "head"]]) (.op .ix [.fld (.var 0) "head", .var 1]) (.call "plus" none [.op .tup [.var 1, .con (.int (1))], .fld (.var 0) "offset"]))] }
def F_Rule_mark : FnC := { np := 2, star := false, ns := 2, body := [.ife (.not (.call "is_count" none [.var 1])) [.never] [], .ret (.meth (.var 0) "at" none [.var 1])] }
def F_Rule_marks_below : FnC := { np := 2, star := false, ns := 6, body := [.set 2 (.op .len [.lc false (.nm 3) [3] (.seq (.fld (.var 0) "head")) [.call "less" none [.var 3, .var 1]] (.var 3)]), .set 4 (.call "minus" none [.var 1, .fld (.var 0) "offset"]), .set 5 (.op .sub [.op .neg [.op .fdiv [.op .neg [.op .ix [.var 4, .con (.int (0))]], .op .ix [.var 4, .con (.int (1))]]], .op .len [.fld (.var 0) "head"]]), .ret (.op .add [.var 2, .op .max2 [.con (.int (0)), .var 5]])] }
def F_Rule___eq__ : FnC := { np := 2, star := false, ns := 4, body := [.ife (.or (.not (.isi (.var 1) "Rule")) (.eqo true (.fld (.var 0) "offset") (.fld (.var 1) "offset"))) [.ret (.con (.bl false))] [], .set 2 (.op .max2 [.op .len [.fld (.var 0) "head"], .op .len [.fld (.var 1) "head"]]), .ret (.eqo false (.lc false (.nm 3) [3] (.rng1 (.var 2)) [] (.meth (.var 0) "at" none [.var 3])) (.lc false (.nm 3) [3] (.rng1 (.var 2)) [] (.meth (.var 1) "at" none [.var 3])))] }
def F_Rule___str__ : FnC := { np := 1, star := false, ns := 1, body := [.ret (.op .fmt [.fld (.var 0) "words"])] }
def F_rule_in : FnC := { np := 1, star := false, ns := 5, body := [.set 1 (.bm .split (.var 0) [.con (.str " ")]), .ife (.or (.op .lt [.op .len [.var 1], .con (.int (2))]) (.or (.op .gt [.op .len [.var 1], .op .add [.glo "MOST_HEAD", .con (.int (2))]]) (.eqo true (.op .ix [.var 1, .op .neg [.con (.int (2))]]) (.con (.str "|"))))) [.ret (.con (.non))] [], .unp (.tp [.nm 2, .nm 3]) (.op .tup [.call "exact_in" none [.op .ix [.var 1, .op .neg [.con (.int (1))]]], .lc false (.nm 4) [4] (.seq (.op (.slc false true) [.var 1, .op .neg [.con (.int (2))]])) [] (.call "exact_in" none [.var 4])]), .ife (.or (.op .isN [.var 2]) (.or (.not (.call "is_offset" none [.var 2])) (.or (.op .in_ [.con (.non), .var 3]) (.op .isnotN [.call "first_bad_mark" none [.var 2, .var 3]])))) [.ret (.con (.non))] [], .ret (.mk "Rule" [.p (.var 2), .s (.var 3)])] }
def F_check_rule : FnC := { np := 1, star := false, ns := 1, body := [.ife (.not (.isi (.var 0) "Rule")) [.never] []] }
def F_check_claims : FnC := { np := 1, star := false, ns := 3, body := [.ife (.or (.not (.isi (.var 0) "tuple")) (.not (.chain .le .le (.con (.int (1))) (.op .len [.var 0]) (.glo "MOST_CLAIMANTS")))) [.never] [], .forr (.tp [.nm 1, .nm 2]) (.enum (.var 0)) [.ife (.not (.call "is_positive" none [.var 2])) [.never] []]] }
def F_check_division : FnC := { np := 2, star := false, ns := 4, body := [.ife (.or (.not (.isi (.var 0) "tuple")) (.eqo true (.op .len [.var 0]) (.var 1))) [.never] [], .forr (.tp [.nm 2, .nm 3]) (.enum (.var 0)) [.ife (.not (.call "is_count" none [.var 3])) [.never] []]] }
def F_exact_claims : FnC := { np := 1, star := false, ns := 2, body := [.ret (.lc false (.nm 1) [1] (.seq (.var 0)) [] (.call "exact" none [.var 1]))] }
def F_is_just : FnC := { np := 3, star := false, ns := 7, body := [.forr (.tp [.nm 3, .nm 4]) (.enum (.var 2)) [.forr (.tp [.nm 5, .nm 6]) (.enum (.var 2)) [.ife (.and (.eqo true (.var 3) (.var 5)) (.op .gt [.var 4, .con (.int (0))])) [.ife (.call "less" none [.call "times" none [.meth (.var 0) "at" none [.var 6], .op .ix [.var 1, .var 3]], .call "times" none [.meth (.var 0) "at" none [.op .sub [.var 4, .con (.int (1))]], .op .ix [.var 1, .var 5]]]) [.ret (.con (.bl false))] []] []]], .ret (.con (.bl true))] }
def F_is_fair : FnC := { np := 3, star := false, ns := 3, body := [.exp (.call "check_rule" none [.var 0]), .exp (.call "check_claims" none [.var 1]), .exp (.call "check_division" none [.var 2, .op .len [.var 1]]), .ret (.call "is_just" none [.var 0, .call "exact_claims" none [.var 1], .var 2])] }
def F_cheapest : FnC := { np := 3, star := false, ns := 9, body := [.set 3 (.lc false (.tp [.nm 4, .nm 5]) [4, 5] (.zip (.var 2) (.var 1)) [] (.call "over" none [.meth (.var 0) "at" none [.var 4], .var 5])), .set 6 (.call "least_of" none [.var 3]), .ret (.lc false (.tp [.nm 7, .nm 8]) [7, 8] (.enum (.var 3)) [.eqo false (.var 8) (.var 6)] (.var 7))] }
def F_settled : FnC := { np := 3, star := false, ns := 10, body := [.set 3 (.call "over" none [.op .tup [.op .max2 [.con (.int (0)), .op .sub [.var 2, .op .mul [.glo "MARGIN", .op .len [.var 1]]]], .con (.int (1))], .call "total" none [.var 1]]), .set 4 (.lc false (.nm 5) [5] (.seq (.var 1)) [] (.meth (.var 0) "marks_below" none [.call "times" none [.var 3, .var 5]])), .set 6 (.op .sub [.var 2, .op .sum [.var 4]]), .set 7 (.call "cheapest" none [.var 0, .var 1, .var 4]), .whl (.op .le [.op .len [.var 7], .var 6]) [.set 4 (.lc false (.tp [.nm 8, .nm 9]) [8, 9] (.enum (.var 4)) [] (.ite (.op .in_ [.var 8, .var 7]) (.op .add [.var 9, .con (.int (1))]) (.var 9))), .aug 6 true (.op .len [.var 7]), .set 7 (.call "cheapest" none [.var 0, .var 1, .var 4])], .ret (.op .tup [.var 4, .var 6, .var 7])] }
def F_choices : FnC := { np := 2, star := false, ns := 3, body := [.ife (.eqo false (.var 1) (.con (.int (0)))) [.ret (.op (.lst false) [.op (.lst false) []])] [], .ife (.op .lt [.op .len [.var 0], .var 1]) [.ret (.op (.lst false) [])] [], .ret (.op .add [.lc false (.nm 2) [2] (.seq (.call "choices" none [.op (.slc true false) [.var 0, .con (.int (1))], .op .sub [.var 1, .con (.int (1))]])) [] (.lsts false [.p (.op .ix [.var 0, .con (.int (0))]), .s (.var 2)]), .call "choices" none [.op (.slc true false) [.var 0, .con (.int (1))], .var 1]])] }
def F_divisions_of : FnC := { np := 3, star := false, ns := 10, body := [.unp (.tp [.nm 3, .nm 4, .nm 5]) (.call "settled" none [.var 0, .call "exact_claims" none [.var 1], .var 2]), .set 6 (.op (.lst true) []), .forr (.nm 7) (.seq (.call "choices" none [.var 5, .var 4])) [.exp (.bm .append (.var 6) [.op .tuple [.lc false (.tp [.nm 8, .nm 9]) [8, 9] (.enum (.var 3)) [] (.ite (.op .in_ [.var 8, .var 7]) (.op .add [.var 9, .con (.int (1))]) (.var 9))]])], .ret (.var 6)] }
def F_check_items : FnC := { np := 3, star := false, ns := 3, body := [.exp (.call "check_rule" none [.var 0]), .exp (.call "check_claims" none [.var 1]), .ife (.not (.call "is_count" none [.var 2])) [.never] [], .ife (.op .gt [.var 2, .glo "MOST_ITEMS"]) [.never] []] }
def F_fair_divisions : FnC := { np := 3, star := false, ns := 3, body := [.exp (.call "check_items" none [.var 0, .var 1, .var 2]), .ret (.op .tuple [.call "divisions_of" none [.var 0, .var 1, .var 2]])] }
def F_fair_division : FnC := { np := 3, star := false, ns := 3, body := [.exp (.call "check_items" none [.var 0, .var 1, .var 2]), .ret (.op .ix [.call "divisions_of" none [.var 0, .var 1, .var 2], .con (.int (0))])] }
def F_next_claimants : FnC := { np := 3, star := false, ns := 4, body := [.exp (.call "check_rule" none [.var 0]), .exp (.call "check_claims" none [.var 1]), .exp (.call "check_division" none [.var 2, .op .len [.var 1]]), .set 3 (.call "exact_claims" none [.var 1]), .ife (.not (.call "is_just" none [.var 0, .var 3, .var 2])) [.never] [], .ret (.op .tuple [.call "cheapest" none [.var 0, .var 3, .var 2]])] }
def F_sample_rule : FnC := { np := 0, star := false, ns := 0, body := [.ret (.mk "Rule" [.p (.op .tup [.con (.int (1)), .con (.int (2))]), .p (.op .tup [.con (.int (7)), .con (.int (10))])])] }
def F_sample_statements : FnC := { np := 0, star := false, ns := 0, body := [.ret (.op .tup [.op .tup [.con (.str "fair"), .call "sample_rule" none [], .op .tup [.con (.int (4)), .con (.int (2)), .con (.int (1))], .con (.non)], .op .tup [.con (.str "ratio"), .con (.int (0)), .con (.int (2)), .con (.non), .con (.int (4))]])] }
def F_Rule_read : FnC := { np := 1, star := false, ns := 2, body := [.set 1 (.ite (.isi (.var 0) "str") (.call "rule_in" none [.var 0]) (.con (.non))), .ife (.op .isN [.var 1]) [.never] [], .ret (.var 1)] }
def F_check_rules : FnC := { np := 2, star := false, ns := 2, body := [.exp (.call "check_rule" none [.var 0]), .exp (.call "check_rule" none [.var 1])] }
def F_turning_point : FnC := { np := 3, star := false, ns := 5, body := [.unp (.tp [.nm 3, .nm 4]) (.op .tup [.meth (.var 0) "at" none [.var 1], .meth (.var 0) "at" none [.var 2]]), .ife (.op .gt [.op .ix [.var 4, .con (.int (0))], .con (.int (0))]) [.ret (.call "over" none [.var 3, .var 4])] [], .ret (.ite (.op .gt [.op .ix [.var 3, .con (.int (0))], .con (.int (0))]) (.op .tup [.con (.int (1)), .con (.int (0))]) (.op .tup [.con (.int (0)), .con (.int (0))]))] }
def F_first_unkind : FnC := { np := 2, star := false, ns := 4, body := [.exp (.call "check_rules" none [.var 0, .var 1]), .forr (.nm 2) (.rng2 (.con (.int (1))) (.op .add [.op .max2 [.op .len [.fld (.var 0) "head"], .op .len [.fld (.var 1) "head"]], .con (.int (2))])) [.forr (.nm 3) (.rng1 (.var 2)) [.ife (.call "less" none [.call "turning_point" none [.var 1, .var 3, .var 2], .call "turning_point" none [.var 0, .var 3, .var 2]]) [.ret (.op .tup [.var 3, .var 2])] []]], .ret (.con (.non))] }
structure Pg (G : Prg) : Prop where
  f_Rule_read : G.fn "Rule.read" = some F_Rule_read
  k_Rule_read : G.keep "Rule.read" = false
  f_check_rules : G.fn "check_rules" = some F_check_rules
  k_check_rules : G.keep "check_rules" = false
  f_turning_point : G.fn "turning_point" = some F_turning_point
  k_turning_point : G.keep "turning_point" = false
  f_first_unkind : G.fn "first_unkind" = some F_first_unkind
  k_first_unkind : G.keep "first_unkind" = false
  f_is_integer : G.fn "is_integer" = some F_is_integer
  f_is_count : G.fn "is_count" = some F_is_count
  f_is_number : G.fn "is_number" = some F_is_number
  f_common_divisor : G.fn "common_divisor" = some F_common_divisor
  f_reduced : G.fn "reduced" = some F_reduced
  f_exact : G.fn "exact" = some F_exact
  f_less : G.fn "less" = some F_less
  f_plus : G.fn "plus" = some F_plus
  f_minus : G.fn "minus" = some F_minus
  f_times : G.fn "times" = some F_times
  f_over : G.fn "over" = some F_over
  f_total : G.fn "total" = some F_total
  f_least_of : G.fn "least_of" = some F_least_of
  f_is_positive : G.fn "is_positive" = some F_is_positive
  f_digits_of : G.fn "digits_of" = some F_digits_of
  f_exact_text : G.fn "exact_text" = some F_exact_text
  f_count_in : G.fn "count_in" = some F_count_in
  f_exact_in : G.fn "exact_in" = some F_exact_in
  f_is_offset : G.fn "is_offset" = some F_is_offset
  f_first_bad_mark : G.fn "first_bad_mark" = some F_first_bad_mark
  f_Rule___init__ : G.fn "Rule.__init__" = some F_Rule___init__
  f_Rule_at : G.fn "Rule.at" = some F_Rule_at
  f_Rule_mark : G.fn "Rule.mark" = some F_Rule_mark
  f_Rule_marks_below : G.fn "Rule.marks_below" = some F_Rule_marks_below
  f_Rule___eq__ : G.fn "Rule.__eq__" = some F_Rule___eq__
  f_Rule___str__ : G.fn "Rule.__str__" = some F_Rule___str__
  f_rule_in : G.fn "rule_in" = some F_rule_in
  f_check_rule : G.fn "check_rule" = some F_check_rule
  f_check_claims : G.fn "check_claims" = some F_check_claims
  f_check_division : G.fn "check_division" = some F_check_division
  f_exact_claims : G.fn "exact_claims" = some F_exact_claims
  f_is_just : G.fn "is_just" = some F_is_just
  f_is_fair : G.fn "is_fair" = some F_is_fair
  f_cheapest : G.fn "cheapest" = some F_cheapest
  f_settled : G.fn "settled" = some F_settled
  f_choices : G.fn "choices" = some F_choices
  f_divisions_of : G.fn "divisions_of" = some F_divisions_of
  f_check_items : G.fn "check_items" = some F_check_items
  f_fair_divisions : G.fn "fair_divisions" = some F_fair_divisions
  f_fair_division : G.fn "fair_division" = some F_fair_division
  f_next_claimants : G.fn "next_claimants" = some F_next_claimants
  f_sample_rule : G.fn "sample_rule" = some F_sample_rule
  f_sample_statements : G.fn "sample_statements" = some F_sample_statements
  k_is_integer : G.keep "is_integer" = false
  k_is_count : G.keep "is_count" = false
  k_is_number : G.keep "is_number" = false
  k_common_divisor : G.keep "common_divisor" = false
  k_reduced : G.keep "reduced" = false
  k_exact : G.keep "exact" = false
  k_less : G.keep "less" = false
  k_plus : G.keep "plus" = false
  k_minus : G.keep "minus" = false
  k_times : G.keep "times" = false
  k_over : G.keep "over" = false
  k_total : G.keep "total" = false
  k_least_of : G.keep "least_of" = false
  k_is_positive : G.keep "is_positive" = false
  k_digits_of : G.keep "digits_of" = false
  k_exact_text : G.keep "exact_text" = false
  k_count_in : G.keep "count_in" = false
  k_exact_in : G.keep "exact_in" = false
  k_is_offset : G.keep "is_offset" = false
  k_first_bad_mark : G.keep "first_bad_mark" = false
  k_Rule___init__ : G.keep "Rule.__init__" = false
  k_Rule_at : G.keep "Rule.at" = false
  k_Rule_mark : G.keep "Rule.mark" = false
  k_Rule_marks_below : G.keep "Rule.marks_below" = false
  k_Rule___eq__ : G.keep "Rule.__eq__" = false
  k_Rule___str__ : G.keep "Rule.__str__" = false
  k_rule_in : G.keep "rule_in" = false
  k_check_rule : G.keep "check_rule" = false
  k_check_claims : G.keep "check_claims" = false
  k_check_division : G.keep "check_division" = false
  k_exact_claims : G.keep "exact_claims" = false
  k_is_just : G.keep "is_just" = false
  k_is_fair : G.keep "is_fair" = false
  k_cheapest : G.keep "cheapest" = false
  k_settled : G.keep "settled" = false
  k_choices : G.keep "choices" = false
  k_divisions_of : G.keep "divisions_of" = false
  k_check_items : G.keep "check_items" = false
  k_fair_divisions : G.keep "fair_divisions" = false
  k_fair_division : G.keep "fair_division" = false
  k_next_claimants : G.keep "next_claimants" = false
  k_sample_rule : G.keep "sample_rule" = false
  k_sample_statements : G.keep "sample_statements" = false
  i_int_NoneType : G.isi "int" (.inl "NoneType") = some false
  i_int_bool : G.isi "int" (.inl "bool") = some true
  i_int_int : G.isi "int" (.inl "int") = some true
  i_int_str : G.isi "int" (.inl "str") = some false
  i_int_tuple : G.isi "int" (.inl "tuple") = some false
  i_int_list : G.isi "int" (.inl "list") = some false
  i_int_dict : G.isi "int" (.inl "dict") = some false
  i_int_Rule : G.isi "int" (.inr "Rule") = some false
  i_bool_NoneType : G.isi "bool" (.inl "NoneType") = some false
  i_bool_bool : G.isi "bool" (.inl "bool") = some true
  i_bool_int : G.isi "bool" (.inl "int") = some false
  i_bool_str : G.isi "bool" (.inl "str") = some false
  i_bool_tuple : G.isi "bool" (.inl "tuple") = some false
  i_bool_list : G.isi "bool" (.inl "list") = some false
  i_bool_dict : G.isi "bool" (.inl "dict") = some false
  i_bool_Rule : G.isi "bool" (.inr "Rule") = some false
  i_tuple_NoneType : G.isi "tuple" (.inl "NoneType") = some false
  i_tuple_bool : G.isi "tuple" (.inl "bool") = some false
  i_tuple_int : G.isi "tuple" (.inl "int") = some false
  i_tuple_str : G.isi "tuple" (.inl "str") = some false
  i_tuple_tuple : G.isi "tuple" (.inl "tuple") = some true
  i_tuple_list : G.isi "tuple" (.inl "list") = some false
  i_tuple_dict : G.isi "tuple" (.inl "dict") = some false
  i_tuple_Rule : G.isi "tuple" (.inr "Rule") = some false
  i_str_NoneType : G.isi "str" (.inl "NoneType") = some false
  i_str_bool : G.isi "str" (.inl "bool") = some false
  i_str_int : G.isi "str" (.inl "int") = some false
  i_str_str : G.isi "str" (.inl "str") = some true
  i_str_tuple : G.isi "str" (.inl "tuple") = some false
  i_str_list : G.isi "str" (.inl "list") = some false
  i_str_dict : G.isi "str" (.inl "dict") = some false
  i_str_Rule : G.isi "str" (.inr "Rule") = some false
  i_Rule_NoneType : G.isi "Rule" (.inl "NoneType") = some false
  i_Rule_bool : G.isi "Rule" (.inl "bool") = some false
  i_Rule_int : G.isi "Rule" (.inl "int") = some false
  i_Rule_str : G.isi "Rule" (.inl "str") = some false
  i_Rule_tuple : G.isi "Rule" (.inl "tuple") = some false
  i_Rule_list : G.isi "Rule" (.inl "list") = some false
  i_Rule_dict : G.isi "Rule" (.inl "dict") = some false
  i_Rule_Rule : G.isi "Rule" (.inr "Rule") = some true
  c_WIDE : G.con "WIDE" = some (.int (10 ^ 18))
  c_WIDE_DIGITS : G.con "WIDE_DIGITS" = some (.int (18))
  c_MOST_HEAD : G.con "MOST_HEAD" = some (.int (8))
  c_MOST_CLAIMANTS : G.con "MOST_CLAIMANTS" = some (.int (6))
  c_MOST_ITEMS : G.con "MOST_ITEMS" = some (.int (10 ^ 18))
  c_MARGIN : G.con "MARGIN" = some (.int (10))
  c_DIGITS : G.con "DIGITS" = some (.str "0123456789")
  fo_offset : G.fldOk "Rule" "offset" = true
  fo_head : G.fldOk "Rule" "head" = true
  fo_words : G.fldOk "Rule" "words" = true
  m_at : G.meth "Rule" "at" = some ("Rule.at" : Str)
  m_mark : G.meth "Rule" "mark" = some ("Rule.mark" : Str)
  m_marks_below : G.meth "Rule" "marks_below" = some ("Rule.marks_below" : Str)
  init : G.init "Rule" = some ("Rule.__init__" : Str)
  frz : G.frz "Rule" = true
  fuel : G.fuel = 2 ^ 7900
  eqm : G.eqm "Rule" = some ("Rule.__eq__" : Str)
  strm : G.strm "Rule" = some ("Rule.__str__" : Str)
end Zv

set_option maxRecDepth 100000
set_option maxHeartbeats 4000000
/-! CtF: a program, filled up with all defs of the package. -/
namespace Zv
open PySem
def tabB : List (Str × FnC) := ([(("Rule.read" : Str), F_Rule_read), (("check_rules" : Str), F_check_rules), (("turning_point" : Str), F_turning_point), (("first_unkind" : Str), F_first_unkind), (("is_integer" : Str), F_is_integer), (("is_count" : Str), F_is_count), (("is_number" : Str), F_is_number), (("common_divisor" : Str), F_common_divisor)] : List (Str × FnC)) ++ ([(("reduced" : Str), F_reduced), (("exact" : Str), F_exact), (("less" : Str), F_less), (("plus" : Str), F_plus), (("minus" : Str), F_minus), (("times" : Str), F_times), (("over" : Str), F_over), (("total" : Str), F_total)] : List (Str × FnC)) ++ ([(("least_of" : Str), F_least_of), (("is_positive" : Str), F_is_positive), (("digits_of" : Str), F_digits_of), (("exact_text" : Str), F_exact_text), (("count_in" : Str), F_count_in), (("exact_in" : Str), F_exact_in), (("is_offset" : Str), F_is_offset), (("first_bad_mark" : Str), F_first_bad_mark)] : List (Str × FnC)) ++ ([(("Rule.__init__" : Str), F_Rule___init__), (("Rule.at" : Str), F_Rule_at), (("Rule.mark" : Str), F_Rule_mark), (("Rule.marks_below" : Str), F_Rule_marks_below), (("Rule.__eq__" : Str), F_Rule___eq__), (("Rule.__str__" : Str), F_Rule___str__), (("rule_in" : Str), F_rule_in), (("check_rule" : Str), F_check_rule)] : List (Str × FnC)) ++ ([(("check_claims" : Str), F_check_claims), (("check_division" : Str), F_check_division), (("exact_claims" : Str), F_exact_claims), (("is_just" : Str), F_is_just), (("is_fair" : Str), F_is_fair), (("cheapest" : Str), F_cheapest), (("settled" : Str), F_settled), (("choices" : Str), F_choices)] : List (Str × FnC)) ++ ([(("divisions_of" : Str), F_divisions_of), (("check_items" : Str), F_check_items), (("fair_divisions" : Str), F_fair_divisions), (("fair_division" : Str), F_fair_division), (("next_claimants" : Str), F_next_claimants), (("sample_rule" : Str), F_sample_rule), (("sample_statements" : Str), F_sample_statements)] : List (Str × FnC))
def conB : List (Str × W) := [(("WIDE" : Str), .int (10 ^ 18)), (("WIDE_DIGITS" : Str), .int (18)), (("MOST_HEAD" : Str), .int (8)), (("MOST_CLAIMANTS" : Str), .int (6)), (("MOST_ITEMS" : Str), .int (10 ^ 18)), (("MARGIN" : Str), .int (10)), (("DIGITS" : Str), .str "0123456789")]
def isiL : List ((Str × String) × Bool) := [((("int" : Str), "NoneType"), false), ((("int" : Str), "bool"), true), ((("int" : Str), "int"), true), ((("int" : Str), "str"), false), ((("int" : Str), "tuple"), false), ((("int" : Str), "list"), false), ((("int" : Str), "dict"), false), ((("bool" : Str), "NoneType"), false), ((("bool" : Str), "bool"), true), ((("bool" : Str), "int"), false), ((("bool" : Str), "str"), false), ((("bool" : Str), "tuple"), false), ((("bool" : Str), "list"), false), ((("bool" : Str), "dict"), false), ((("tuple" : Str), "NoneType"), false), ((("tuple" : Str), "bool"), false), ((("tuple" : Str), "int"), false), ((("tuple" : Str), "str"), false), ((("tuple" : Str), "tuple"), true), ((("tuple" : Str), "list"), false), ((("tuple" : Str), "dict"), false), ((("str" : Str), "NoneType"), false), ((("str" : Str), "bool"), false), ((("str" : Str), "int"), false), ((("str" : Str), "str"), true), ((("str" : Str), "tuple"), false), ((("str" : Str), "list"), false), ((("str" : Str), "dict"), false), ((("Rule" : Str), "NoneType"), false), ((("Rule" : Str), "bool"), false), ((("Rule" : Str), "int"), false), ((("Rule" : Str), "str"), false), ((("Rule" : Str), "tuple"), false), ((("Rule" : Str), "list"), false), ((("Rule" : Str), "dict"), false)]
def isiR : List (Str × Bool) := [(("int" : Str), false), (("bool" : Str), false), (("tuple" : Str), false), (("str" : Str), false), (("Rule" : Str), true)]
def isiB (c : Str) : Sum String Str → Option Bool
  | .inl n => isiL.lookup (c, n)
  | .inr C => if C = "Rule" then isiR.lookup c else none
def full (G : Prg) : Prg := { G with
  fn := fun f => match tabB.lookup f with
    | some F => some F
    | none => G.fn f
  keep := fun f => match tabB.lookup f with
    | some _ => false
    | none => G.keep f
  con := fun x => match conB.lookup x with
    | some w => some w
    | none => G.con x
  isi := fun c t => match isiB c t with
    | some b => some b
    | none => G.isi c t }
structure Base (G : Prg) : Prop where
  fo_offset : G.fldOk "Rule" "offset" = true
  fo_head : G.fldOk "Rule" "head" = true
  fo_words : G.fldOk "Rule" "words" = true
  m_at : G.meth "Rule" "at" = some ("Rule.at" : Str)
  m_mark : G.meth "Rule" "mark" = some ("Rule.mark" : Str)
  m_marks_below : G.meth "Rule" "marks_below" = some ("Rule.marks_below" : Str)
  init : G.init "Rule" = some ("Rule.__init__" : Str)
  frz : G.frz "Rule" = true
  fuel : G.fuel = 2 ^ 7900
  eqm : G.eqm "Rule" = some ("Rule.__eq__" : Str)
  strm : G.strm "Rule" = some ("Rule.__str__" : Str)
theorem full_fn {G : Prg} {f : Str} {F : FnC} (h : tabB.lookup f = some F) : (full G).fn f = some F := by
  show (match tabB.lookup f with
    | some F => some F
    | none => G.fn f) = _
  rw [h]
theorem full_keep {G : Prg} {f : Str} {F : FnC} (h : tabB.lookup f = some F) : (full G).keep f = false := by
  show (match tabB.lookup f with
    | some _ => false
    | none => G.keep f) = _
  rw [h]
theorem full_con {G : Prg} {f : Str} {F : W} (h : conB.lookup f = some F) : (full G).con f = some F := by
  show (match conB.lookup f with
    | some F => some F
    | none => G.con f) = _
  rw [h]
theorem full_isi {G : Prg} {c : Str} {t : Sum String Str} {b : Bool} (h : isiB c t = some b) : (full G).isi c t = some b := by
  show (match isiB c t with
    | some b => some b
    | none => G.isi c t) = _
  rw [h]
theorem full_out {G : Prg} {f : Str} (h : tabB.lookup f = none) : (full G).fn f = G.fn f ∧ (full G).keep f = G.keep f := by
  constructor
  · show (match tabB.lookup f with
    | some F => some F
    | none => G.fn f) = _
    rw [h]
  · show (match tabB.lookup f with
    | some _ => false
    | none => G.keep f) = _
    rw [h]
theorem pg_full {G : Prg} (B : Base G) : Pg (full G) where
  f_Rule_read := full_fn (by kernel_rfl)
  k_Rule_read := full_keep (F := F_Rule_read) (by kernel_rfl)
  f_check_rules := full_fn (by kernel_rfl)
  k_check_rules := full_keep (F := F_check_rules) (by kernel_rfl)
  f_turning_point := full_fn (by kernel_rfl)
  k_turning_point := full_keep (F := F_turning_point) (by kernel_rfl)
  f_first_unkind := full_fn (by kernel_rfl)
  k_first_unkind := full_keep (F := F_first_unkind) (by kernel_rfl)
  f_is_integer := full_fn (by kernel_rfl)
  f_is_count := full_fn (by kernel_rfl)
  f_is_number := full_fn (by kernel_rfl)
  f_common_divisor := full_fn (by kernel_rfl)
  f_reduced := full_fn (by kernel_rfl)
  f_exact := full_fn (by kernel_rfl)
  f_less := full_fn (by kernel_rfl)
  f_plus := full_fn (by kernel_rfl)
  f_minus := full_fn (by kernel_rfl)
  f_times := full_fn (by kernel_rfl)
  f_over := full_fn (by kernel_rfl)
  f_total := full_fn (by kernel_rfl)
  f_least_of := full_fn (by kernel_rfl)
  f_is_positive := full_fn (by kernel_rfl)
  f_digits_of := full_fn (by kernel_rfl)
  f_exact_text := full_fn (by kernel_rfl)
  f_count_in := full_fn (by kernel_rfl)
  f_exact_in := full_fn (by kernel_rfl)
  f_is_offset := full_fn (by kernel_rfl)
  f_first_bad_mark := full_fn (by kernel_rfl)
  f_Rule___init__ := full_fn (by kernel_rfl)
  f_Rule_at := full_fn (by kernel_rfl)
  f_Rule_mark := full_fn (by kernel_rfl)
  f_Rule_marks_below := full_fn (by kernel_rfl)
  f_Rule___eq__ := full_fn (by kernel_rfl)
  f_Rule___str__ := full_fn (by kernel_rfl)
  f_rule_in := full_fn (by kernel_rfl)
  f_check_rule := full_fn (by kernel_rfl)
  f_check_claims := full_fn (by kernel_rfl)
  f_check_division := full_fn (by kernel_rfl)
  f_exact_claims := full_fn (by kernel_rfl)
  f_is_just := full_fn (by kernel_rfl)
  f_is_fair := full_fn (by kernel_rfl)
  f_cheapest := full_fn (by kernel_rfl)
  f_settled := full_fn (by kernel_rfl)
  f_choices := full_fn (by kernel_rfl)
  f_divisions_of := full_fn (by kernel_rfl)
  f_check_items := full_fn (by kernel_rfl)
  f_fair_divisions := full_fn (by kernel_rfl)
  f_fair_division := full_fn (by kernel_rfl)
  f_next_claimants := full_fn (by kernel_rfl)
  f_sample_rule := full_fn (by kernel_rfl)
  f_sample_statements := full_fn (by kernel_rfl)
  k_is_integer := full_keep (F := F_is_integer) (by kernel_rfl)
  k_is_count := full_keep (F := F_is_count) (by kernel_rfl)
  k_is_number := full_keep (F := F_is_number) (by kernel_rfl)
  k_common_divisor := full_keep (F := F_common_divisor) (by kernel_rfl)
  k_reduced := full_keep (F := F_reduced) (by kernel_rfl)
  k_exact := full_keep (F := F_exact) (by kernel_rfl)
  k_less := full_keep (F := F_less) (by kernel_rfl)
  k_plus := full_keep (F := F_plus) (by kernel_rfl)
  k_minus := full_keep (F := F_minus) (by kernel_rfl)
  k_times := full_keep (F := F_times) (by kernel_rfl)
  k_over := full_keep (F := F_over) (by kernel_rfl)
  k_total := full_keep (F := F_total) (by kernel_rfl)
  k_least_of := full_keep (F := F_least_of) (by kernel_rfl)
  k_is_positive := full_keep (F := F_is_positive) (by kernel_rfl)
  k_digits_of := full_keep (F := F_digits_of) (by kernel_rfl)
  k_exact_text := full_keep (F := F_exact_text) (by kernel_rfl)
  k_count_in := full_keep (F := F_count_in) (by kernel_rfl)
  k_exact_in := full_keep (F := F_exact_in) (by kernel_rfl)
  k_is_offset := full_keep (F := F_is_offset) (by kernel_rfl)
  k_first_bad_mark := full_keep (F := F_first_bad_mark) (by kernel_rfl)
  k_Rule___init__ := full_keep (F := F_Rule___init__) (by kernel_rfl)
  k_Rule_at := full_keep (F := F_Rule_at) (by kernel_rfl)
  k_Rule_mark := full_keep (F := F_Rule_mark) (by kernel_rfl)
  k_Rule_marks_below := full_keep (F := F_Rule_marks_below) (by kernel_rfl)
  k_Rule___eq__ := full_keep (F := F_Rule___eq__) (by kernel_rfl)
  k_Rule___str__ := full_keep (F := F_Rule___str__) (by kernel_rfl)
  k_rule_in := full_keep (F := F_rule_in) (by kernel_rfl)
  k_check_rule := full_keep (F := F_check_rule) (by kernel_rfl)
  k_check_claims := full_keep (F := F_check_claims) (by kernel_rfl)
  k_check_division := full_keep (F := F_check_division) (by kernel_rfl)
  k_exact_claims := full_keep (F := F_exact_claims) (by kernel_rfl)
  k_is_just := full_keep (F := F_is_just) (by kernel_rfl)
  k_is_fair := full_keep (F := F_is_fair) (by kernel_rfl)
  k_cheapest := full_keep (F := F_cheapest) (by kernel_rfl)
  k_settled := full_keep (F := F_settled) (by kernel_rfl)
  k_choices := full_keep (F := F_choices) (by kernel_rfl)
  k_divisions_of := full_keep (F := F_divisions_of) (by kernel_rfl)
  k_check_items := full_keep (F := F_check_items) (by kernel_rfl)
  k_fair_divisions := full_keep (F := F_fair_divisions) (by kernel_rfl)
  k_fair_division := full_keep (F := F_fair_division) (by kernel_rfl)
  k_next_claimants := full_keep (F := F_next_claimants) (by kernel_rfl)
  k_sample_rule := full_keep (F := F_sample_rule) (by kernel_rfl)
  k_sample_statements := full_keep (F := F_sample_statements) (by kernel_rfl)
  i_int_NoneType := full_isi (by kernel_rfl)
  i_int_bool := full_isi (by kernel_rfl)
  i_int_int := full_isi (by kernel_rfl)
  i_int_str := full_isi (by kernel_rfl)
  i_int_tuple := full_isi (by kernel_rfl)
  i_int_list := full_isi (by kernel_rfl)
  i_int_dict := full_isi (by kernel_rfl)
  i_int_Rule := full_isi (by kernel_rfl)
  i_bool_NoneType := full_isi (by kernel_rfl)
  i_bool_bool := full_isi (by kernel_rfl)
  i_bool_int := full_isi (by kernel_rfl)
  i_bool_str := full_isi (by kernel_rfl)
  i_bool_tuple := full_isi (by kernel_rfl)
  i_bool_list := full_isi (by kernel_rfl)
  i_bool_dict := full_isi (by kernel_rfl)
  i_bool_Rule := full_isi (by kernel_rfl)
  i_tuple_NoneType := full_isi (by kernel_rfl)
  i_tuple_bool := full_isi (by kernel_rfl)
  i_tuple_int := full_isi (by kernel_rfl)
  i_tuple_str := full_isi (by kernel_rfl)
  i_tuple_tuple := full_isi (by kernel_rfl)
  i_tuple_list := full_isi (by kernel_rfl)
  i_tuple_dict := full_isi (by kernel_rfl)
  i_tuple_Rule := full_isi (by kernel_rfl)
  i_str_NoneType := full_isi (by kernel_rfl)
  i_str_bool := full_isi (by kernel_rfl)
  i_str_int := full_isi (by kernel_rfl)
  i_str_str := full_isi (by kernel_rfl)
  i_str_tuple := full_isi (by kernel_rfl)
  i_str_list := full_isi (by kernel_rfl)
  i_str_dict := full_isi (by kernel_rfl)
  i_str_Rule := full_isi (by kernel_rfl)
  i_Rule_NoneType := full_isi (by kernel_rfl)
  i_Rule_bool := full_isi (by kernel_rfl)
  i_Rule_int := full_isi (by kernel_rfl)
  i_Rule_str := full_isi (by kernel_rfl)
  i_Rule_tuple := full_isi (by kernel_rfl)
  i_Rule_list := full_isi (by kernel_rfl)
  i_Rule_dict := full_isi (by kernel_rfl)
  i_Rule_Rule := full_isi (by kernel_rfl)
  c_WIDE := full_con (by kernel_rfl)
  c_WIDE_DIGITS := full_con (by kernel_rfl)
  c_MOST_HEAD := full_con (by kernel_rfl)
  c_MOST_CLAIMANTS := full_con (by kernel_rfl)
  c_MOST_ITEMS := full_con (by kernel_rfl)
  c_MARGIN := full_con (by kernel_rfl)
  c_DIGITS := full_con (by kernel_rfl)
  fo_offset := B.fo_offset
  fo_head := B.fo_head
  fo_words := B.fo_words
  m_at := B.m_at
  m_mark := B.m_mark
  m_marks_below := B.m_marks_below
  init := B.init
  frz := B.frz
  fuel := B.fuel
  eqm := B.eqm
  strm := B.strm
theorem map_at {α β : Type} {f g : α → β} : ∀ {xs : List α}, xs.map f = xs.map g → ∀ x ∈ xs, f x = g x
  | [], _, x, hx => by cases hx
  | y :: ys, h, x, hx => by
    simp only [List.map_cons, List.cons.injEq] at h
    rcases List.mem_cons.mp hx with rfl | hx
    · exact h.1
    · exact map_at h.2 x hx
theorem lookup_mem {α β : Type} [BEq α] [LawfulBEq α] {a : α} {b : β} : ∀ {xs : List (α × β)}, xs.lookup a = some b → (a, b) ∈ xs
  | [], h => by cases h
  | (c, d) :: r, h => by
    rw [List.lookup_cons] at h
    by_cases e : a = c
    · subst e
      simp at h
      simp [h]
    · have : (a == c) = false := by simpa using e
      rw [this] at h
      simp [lookup_mem h]
def usOf (names cons ms ic : List Str) : Us := ⟨names.contains, cons.contains, ms.contains, fun C => decide (C = "Rule"), ic.contains⟩
def usOk (names cons ms ic : List Str) (G : Prg) (f : Str) : Bool := match G.fn f with
  | some F => Sm.uses (usOf names cons ms ic) F.body
  | none => true
def tyN : List String := ["NoneType", "bool", "int", "str", "tuple", "list", "dict"]
theorem isiL_none {c : Str} {n : String} (h : tyN.contains n = false) : isiL.lookup (c, n) = none := by
  have key : ∀ L : List ((Str × String) × Bool), (L.all fun e => tyN.contains e.1.2) = true → L.lookup (c, n) = none := by
    intro L
    induction L with
    | nil => intro _; rfl
    | cons e L ih =>
      intro hL
      simp only [List.all_cons, Bool.and_eq_true] at hL
      obtain ⟨⟨a, b⟩, d⟩ := e
      rw [List.lookup_cons]
      have : ((c, n) == (a, b)) = false := by
        refine Bool.eq_false_iff.mpr fun e => ?_
        have e' := eq_of_beq e
        have : n = b := (Prod.mk.inj e').2
        subst this
        rw [h] at hL
        exact absurd hL.1 (by simp)
      rw [this]
      exact ih hL.2
  exact key isiL (by decide +kernel)
theorem agr_full {G : Prg} {names cons ms ic : List Str} {meths : List ((Str × Str) × Str)} (hmeth : ∀ C m, G.meth C m = meths.lookup (C, m)) {eqs sms : List (Str × Str)} (heq : ∀ C, G.eqm C = eqs.lookup C) (hst : ∀ C, G.strm C = sms.lookup C)
    (h1 : names.map G.fn = names.map (full G).fn) (h2 : names.map G.keep = names.map (full G).keep) (h3 : names.all (usOk names cons ms ic G) = true) (h4 : cons.map G.con = cons.map (full G).con)
    (h5 : (meths.all fun e => !ms.contains e.1.2 || names.contains e.2) = true) (h6 : (eqs.all fun e => names.contains e.2) = true) (h7 : (sms.all fun e => names.contains e.2) = true) (h8 : ∀ f, G.init "Rule" = some f → names.contains f = true)
    (h9 : ic.map (fun c => tyN.map fun n => G.isi c (.inl n)) = ic.map (fun c => tyN.map fun n => (full G).isi c (.inl n))) (h10 : ic.map (fun c => G.isi c (.inr "Rule")) = ic.map (fun c => (full G).isi c (.inr "Rule"))) : Agr (usOf names cons ms ic) G (full G) where
  fn := fun f hf => by
    have hf' : f ∈ names := List.contains_iff_mem.mp hf
    refine ⟨map_at h1 f hf', map_at h2 f hf', fun F hF => ?_⟩
    have := List.all_eq_true.mp h3 f hf'
    unfold usOk at this
    rw [hF] at this
    exact this
  con := fun x hx => map_at h4 x (List.contains_iff_mem.mp hx)
  meth := fun m hm C => by
    refine ⟨rfl, fun f hf => ?_⟩
    rw [hmeth] at hf
    have := List.all_eq_true.mp h5 _ (lookup_mem hf)
    simp only [Bool.or_eq_true, Bool.not_eq_true'] at this
    rcases this with h | h
    · have hm' : ms.contains m = true := hm
      rw [hm'] at h
      cases h
    · exact h
  init := fun C hC => by
    have : C = "Rule" := of_decide_eq_true hC
    subst this
    exact ⟨rfl, rfl, h8⟩
  isi := fun c hc t => by
    have hc' : c ∈ ic := List.contains_iff_mem.mp hc
    cases t with
    | inl n =>
      cases hn : tyN.contains n with
      | true => exact map_at (map_at h9 c hc') n (List.contains_iff_mem.mp hn)
      | false =>
        show _ = (match isiB c (.inl n) with
          | some b => some b
          | none => G.isi c (.inl n))
        rw [show isiB c (.inl n) = none from isiL_none hn]
    | inr C =>
      by_cases hC : C = "Rule"
      · subst hC; exact map_at h10 c hc'
      · show _ = (match isiB c (.inr C) with
          | some b => some b
          | none => G.isi c (.inr C))
        rw [show isiB c (.inr C) = none from if_neg hC]
  fld := fun _ _ => rfl
  eqm := fun C => by
    refine ⟨rfl, fun f hf => ?_⟩
    rw [heq] at hf
    exact List.all_eq_true.mp h6 _ (lookup_mem hf)
  strm := fun C => by
    refine ⟨rfl, fun f hf => ?_⟩
    rw [hst] at hf
    exact List.all_eq_true.mp h7 _ (lookup_mem hf)
  fuel := rfl
end Zv

set_option maxRecDepth 100000
set_option maxHeartbeats 4000000
/-! Ct1: contracts: numbers. -/
namespace Zv
open PySem
abbrev Q (q : Rat) : W := .tup [.int q.num, .int q.den]
def Sz (n : Nat) (q : Rat) : Prop := q.num.natAbs < 2 ^ n ∧ q.den < 2 ^ n
theorem log2_lt_of {a n : Nat} (h : a < 2 ^ n) : a.log2 ≤ n := by
  by_cases h0 : a = 0
  · subst h0; simp
  · exact Nat.le_of_lt ((Nat.log2_lt h0).mpr h)
theorem mul_ok {a b : Int} {n m : Nat} (ha : a.natAbs < 2 ^ n) (hb : b.natAbs < 2 ^ m) (h : n + m < 1000000) : mulOk a b = true := by
  unfold mulOk
  have h1 := log2_lt_of ha
  have h2 := log2_lt_of hb
  exact decide_eq_true (by omega)
theorem div_ok {b : Int} {n : Nat} (h0 : 0 < b) (hb : b.natAbs < 2 ^ n) (h : n < 8000) : divOk b = true := by
  unfold divOk
  have h1 := log2_lt_of hb
  simp only [Bool.and_eq_true, decide_eq_true_eq]
  omega
theorem pow_le {a n m : Nat} (h : a < 2 ^ n) (hn : n ≤ m) : a < 2 ^ m := Nat.lt_of_lt_of_le h (Nat.pow_le_pow_right (by decide) hn)
theorem mul_lt {a b n m : Nat} (ha : a < 2 ^ n) (hb : b < 2 ^ m) : a * b < 2 ^ (n + m) := by
  rw [Nat.pow_add]
  exact Nat.mul_lt_mul'' ha hb
theorem add_lt {a b n : Nat} (ha : a < 2 ^ n) (hb : b < 2 ^ n) : a + b < 2 ^ (n + 1) := by
  rw [Nat.pow_succ]; omega
theorem Sz.mono {n m : Nat} {q : Rat} (h : Sz n q) (hn : n ≤ m) : Sz m q := ⟨pow_le h.1 hn, pow_le h.2 hn⟩
@[simp] theorem rlt_Q {n : Nat} {q : Rat} : W.rlt n (Q q) = true := rfl
@[simp] theorem rlt_bl {n : Nat} {b : Bool} : W.rlt n (.bl b) = true := rfl
@[simp] theorem rlt_int {n : Nat} {b : Int} : W.rlt n (.int b) = true := rfl
@[simp] theorem rlt_str {n : Nat} {b : Str} : W.rlt n (.str b) = true := rfl
@[simp] theorem rlt_non {n : Nat} : W.rlt n .non = true := rfl
@[simp] theorem rlt_tup {n : Nat} {xs : List W} : W.rlt n (.tup xs) = W.rlts n xs := rfl
@[simp] theorem rlt_vl {n : Nat} {xs : List W} : W.rlt n (.vl xs) = W.rlts n xs := rfl
@[simp] theorem rlt_obj {n : Nat} {C : Str} {ns : List Str} {xs : List W} : W.rlt n (.obj C ns xs) = W.rlts n xs := rfl
@[simp] theorem rlts_nil {n : Nat} : W.rlts n [] = true := rfl
@[simp] theorem rlts_cons {n : Nat} {x : W} {xs : List W} : W.rlts n (x :: xs) = (W.rlt n x && W.rlts n xs) := rfl
/-- the number p / q in lowest terms -/
theorem num_mk {p : Int} {q : Nat} (hq : q ≠ 0) : (mkRat p q).num = p / (Nat.gcd p.natAbs q : Int) ∧ (mkRat p q).den = q / Nat.gcd p.natAbs q := by
  rw [Rat.num_mkRat, Rat.den_mkRat, if_neg hq, if_neg hq, Nat.gcd_comm]
  exact ⟨rfl, rfl⟩
theorem sz_mk {p : Int} {q n : Nat} (hq : q ≠ 0) (hp : p.natAbs < 2 ^ n) (h : q < 2 ^ n) : Sz n (mkRat p q) := by
  obtain ⟨e1, e2⟩ := num_mk (p := p) hq
  refine ⟨?_, ?_⟩
  · rw [e1]
    exact Nat.lt_of_le_of_lt (Int.natAbs_ediv_le_natAbs _ _) hp
  · rw [e2]
    exact Nat.lt_of_le_of_lt (Nat.div_le_self _ _) h
theorem Sz.mul {n m : Nat} {a b : Rat} (ha : Sz n a) (hb : Sz m b) : Sz (n + m) (a * b) := by
  rw [Rat.mul_def']
  refine sz_mk (Nat.mul_ne_zero a.den_nz b.den_nz) ?_ (mul_lt ha.2 hb.2)
  rw [Int.natAbs_mul]
  exact mul_lt ha.1 hb.1
theorem Sz.add {n m : Nat} {a b : Rat} (ha : Sz n a) (hb : Sz m b) : Sz (n + m + 1) (a + b) := by
  rw [Rat.add_def']
  refine sz_mk (Nat.mul_ne_zero a.den_nz b.den_nz) ?_ (pow_le (mul_lt ha.2 hb.2) (by omega))
  refine Nat.lt_of_le_of_lt (Int.natAbs_add_le _ _) (add_lt ?_ ?_)
  · rw [Int.natAbs_mul, Int.natAbs_natCast]; exact mul_lt ha.1 hb.2
  · rw [Int.natAbs_mul, Int.natAbs_natCast, Nat.add_comm]; exact mul_lt hb.1 ha.2
theorem Sz.neg {n : Nat} {a : Rat} (ha : Sz n a) : Sz n (-a) := by
  obtain ⟨h1, h2⟩ := ha
  exact ⟨by rw [Rat.neg_num, Int.natAbs_neg]; exact h1, by rw [Rat.neg_den]; exact h2⟩
theorem Sz.sub {n m : Nat} {a b : Rat} (ha : Sz n a) (hb : Sz m b) : Sz (n + m + 1) (a - b) := by
  rw [Rat.sub_eq_add_neg]; exact ha.add hb.neg
theorem num_pos {b : Rat} (h : 0 < b) : 0 < b.num := by
  have := (Rat.lt_iff _ _).mp h
  simpa using this
theorem div_mk {a b : Rat} (hb : 0 < b) : a / b = mkRat (a.num * b.den) (a.den * b.num.toNat) := by
  have h0 : 0 < b.num := num_pos hb
  have e : ((a.den * b.num.toNat : Nat) : Int) = (a.den : Int) * b.num := by
    rw [Int.natCast_mul, Int.toNat_of_nonneg (by omega)]
  rw [← Rat.divInt_ofNat, e, Rat.div_def]
  conv => lhs; rw [← Rat.num_divInt_den a, ← Rat.num_divInt_den b]
  rw [Rat.inv_divInt, Rat.divInt_mul_divInt]
theorem Sz.div {n m : Nat} {a b : Rat} (h0 : 0 < b) (ha : Sz n a) (hb : Sz m b) : Sz (n + m) (a / b) := by
  have hn : 0 < b.num := num_pos h0
  have e : b.num.toNat = b.num.natAbs := by omega
  rw [div_mk h0]
  refine sz_mk (Nat.mul_ne_zero a.den_nz (by omega)) ?_ ?_
  · rw [Int.natAbs_mul, Int.natAbs_natCast]; exact mul_lt ha.1 hb.2
  · rw [e]; exact mul_lt ha.2 hb.1
theorem Q_mk {p : Int} {q : Nat} (hq : q ≠ 0) : Q (mkRat p q) = .tup [.int (p / (Nat.gcd p.natAbs q : Int)), .int ((q / Nat.gcd p.natAbs q : Nat) : Int)] := by
  obtain ⟨e1, e2⟩ := num_mk (p := p) hq
  rw [Q, e1, e2]
section
variable {G : Prg} (P : Pg G) {k : Nat} {st : Sto}
include P
theorem c_less {a b : Rat} {n : Nat} (ha : Sz n a) (hb : Sz n b) (hn : n ≤ 400000) : callK G (k + 1) "less" [Q a, Q b] st = .ok (.bl (decide (a < b))) st := by
  rw [call_fn P.f_less rfl rfl, P.k_less]
  have h1 : mulOk a.num b.den = true := mul_ok ha.1 (by simpa using hb.2) (by omega)
  have h2 : mulOk b.num a.den = true := mul_ok hb.1 (by simpa using ha.2) (by omega)
  simp [F_less, h1, h2]
  rw [gc_ok0 rfl]
  simp [Rat.lt_iff]
theorem c_gcd {a b : Nat} (hb : b + 1 < 2 ^ 7900) : callK G (k + 1) "common_divisor" [.int a, .int b] st = .ok (.int (Nat.gcd a b)) st := by
  rw [call_fn P.f_common_divisor rfl rfl, P.k_common_divisor]
  have key : ∀ (n : Nat) (b a : Nat), b < n → whE G (callK G k) (.op .gt [.var 1, .con (.int (0))]) [.unp (.tp [.nm 0, .nm 1]) (.op .tup [.var 1, .op .mod [.op .int [.var 0], .op .int [.var 1]]])] n [some (.int a), some (.int b)] st = .fl (.nx [some (.int (Nat.gcd a b)), some (.int 0)]) st := by
    intro n
    induction n with
    | zero => intro b a h; omega
    | succ n ih =>
      intro b a h
      by_cases hb : b = 0
      · subst hb
        rw [whE_stop (st1 := st) (by simp)]
        simp
      · have hp := Nat.pos_of_ne_zero hb
        rw [whE_step (st1 := st) (st2 := st) (env2 := [some (.int b), some (.int ((a % b : Nat) : Int))])]
        · rw [ih (a % b) b (by have := Nat.mod_lt a hp; omega), Nat.gcd_comm b, ← Nat.gcd_rec, Nat.gcd_comm]
        · simp [hp]
        · simp [hp, szL]
  simp only [F_common_divisor, q_exs1, q_whl, P.fuel, start_, List.map_cons, List.map_nil, List.length_cons, List.length_nil, List.replicate, List.append_nil, Nat.sub_self, Nat.reduceAdd]
  rw [key _ b a (by omega)]
  simp
  rw [gc_ok0 rfl]
theorem c_reduced {p : Int} {q n : Nat} (hq : q ≠ 0) (hn : q < 2 ^ n) (h : n < 7900) : callK G (k + 2) "reduced" [.int p, .int q] st = .ok (Q (mkRat p q)) st := by
  rw [call_fn P.f_reduced rfl rfl, P.k_reduced]
  have e1 : (if p < 0 then -p else p) = (p.natAbs : Int) := by split <;> omega
  have hg : 0 < Nat.gcd p.natAbs q := Nat.gcd_pos_of_pos_right _ (Nat.pos_of_ne_zero hq)
  have hgl : Nat.gcd p.natAbs q ≤ q := Nat.gcd_le_right _ (Nat.pos_of_ne_zero hq)
  have hd : divOk (Nat.gcd p.natAbs q : Int) = true := div_ok (n := n) (by omega) (by simp; omega) (by omega)
  have hf : q + 1 < 2 ^ 7900 := by
    have h1 : 2 ^ n ≤ 2 ^ 7899 := Nat.pow_le_pow_right (by decide) (by omega)
    have h2 : (2 : Nat) ^ 7900 = 2 ^ 7899 * 2 := by rw [← Nat.pow_succ]
    have h3 : 1 ≤ 2 ^ 7899 := Nat.one_le_two_pow
    omega
  simp [F_reduced, e1, c_gcd P hf, hd, szL]
  rw [gc_ok0 rfl, Q_mk hq]
  rfl
theorem c_times {a b : Rat} {n : Nat} (ha : Sz n a) (hb : Sz n b) (hn : n < 3940) : callK G (k + 3) "times" [Q a, Q b] st = .ok (Q (a * b)) st := by
  rw [call_fn P.f_times rfl rfl, P.k_times]
  have h1 : mulOk a.num b.num = true := mul_ok ha.1 hb.1 (by omega)
  have h2 : mulOk a.den b.den = true := mul_ok (by simpa using ha.2) (by simpa using hb.2) (by omega)
  have h3 := c_reduced P (k := k) (st := st) (p := a.num * b.num) (Nat.mul_ne_zero a.den_nz b.den_nz) (mul_lt ha.2 hb.2) (by omega)
  rw [Int.natCast_mul] at h3
  simp [F_times, h1, h2, h3]
  rw [gc_ok0 rfl, Rat.mul_def']
theorem c_plus {a b : Rat} {n : Nat} (ha : Sz n a) (hb : Sz n b) (hn : n < 3940) : callK G (k + 3) "plus" [Q a, Q b] st = .ok (Q (a + b)) st := by
  rw [call_fn P.f_plus rfl rfl, P.k_plus]
  have h1 : mulOk a.num b.den = true := mul_ok ha.1 (by simpa using hb.2) (by omega)
  have h1' : mulOk b.num a.den = true := mul_ok hb.1 (by simpa using ha.2) (by omega)
  have h2 : mulOk a.den b.den = true := mul_ok (by simpa using ha.2) (by simpa using hb.2) (by omega)
  have h3 := c_reduced P (k := k) (st := st) (p := a.num * b.den + b.num * a.den) (Nat.mul_ne_zero a.den_nz b.den_nz) (mul_lt ha.2 hb.2) (by omega)
  rw [Int.natCast_mul] at h3
  simp [F_plus, h1, h1', h2, h3]
  rw [gc_ok0 rfl, Rat.add_def']
theorem c_minus {a b : Rat} {n : Nat} (ha : Sz n a) (hb : Sz n b) (hn : n < 3940) : callK G (k + 4) "minus" [Q a, Q b] st = .ok (Q (a - b)) st := by
  rw [call_fn P.f_minus rfl rfl, P.k_minus]
  have h3 := c_plus P (k := k) (st := st) ha hb.neg hn
  rw [Q, Q, Rat.neg_num, Rat.neg_den] at h3
  simp [F_minus, h3, szL]
  rw [gc_ok0 rfl, Rat.sub_eq_add_neg]
theorem c_over {a b : Rat} {n : Nat} (h0 : 0 < b) (ha : Sz n a) (hb : Sz n b) (hn : n < 3940) : callK G (k + 3) "over" [Q a, Q b] st = .ok (Q (a / b)) st := by
  rw [call_fn P.f_over rfl rfl, P.k_over]
  have hp : 0 < b.num := num_pos h0
  have e : b.num.toNat = b.num.natAbs := by omega
  have h1 : mulOk a.num b.den = true := mul_ok ha.1 (by simpa using hb.2) (by omega)
  have h2 : mulOk a.den b.num = true := mul_ok (by simpa using ha.2) hb.1 (by omega)
  have h3 := c_reduced P (k := k) (st := st) (p := a.num * b.den) (q := a.den * b.num.toNat) (Nat.mul_ne_zero a.den_nz (by omega)) (by rw [e]; exact mul_lt ha.2 hb.1) (by omega)
  rw [Int.natCast_mul, Int.toNat_of_nonneg (by omega)] at h3
  simp [F_over, h1, h2, h3]
  rw [gc_ok0 rfl, div_mk h0]
end
end Zv

set_option maxRecDepth 100000
set_option maxHeartbeats 4000000
/-! Ct2: == of data. -/
namespace Zv
open PySem
mutual
/-- data, at most n deep -/
def W.dat : Nat → W → Bool
  | 0, _ => false
  | _ + 1, .non => true
  | _ + 1, .bl _ => true
  | _ + 1, .int _ => true
  | _ + 1, .str x => PyData.strOk x
  | n + 1, .tup xs => W.dats n xs
  | n + 1, .vl xs => W.dats n xs
  | _ + 1, _ => false
def W.dats : Nat → List W → Bool
  | _, [] => true
  | n, x :: xs => W.dat n x && W.dats n xs
end
mutual
def W.toP : W → PyData
  | .non => .none
  | .bl b => .bool b
  | .int i => .int i
  | .str x => .str x
  | .tup xs => .tuple (W.toPs xs)
  | .vl xs => .list (W.toPs xs)
  | _ => .none
def W.toPs : List W → List PyData
  | [] => []
  | x :: xs => W.toP x :: W.toPs xs
end
mutual
/-- == -/
def W.eqD : W → W → Bool
  | .tup xs, .tup ys => W.eqDs xs ys
  | .vl xs, .vl ys => W.eqDs xs ys
  | a, b => eqW a b
def W.eqDs : List W → List W → Bool
  | [], [] => true
  | x :: xs, y :: ys => W.eqD x y && W.eqDs xs ys
  | _, _ => false
end
mutual
theorem toD_dat {st : Sto} : ∀ (n : Nat) (w : W), W.dat n w = true → toD st n w = some w.toP
  | 0, w, h => by simp [W.dat] at h
  | n + 1, .non, _ => rfl
  | n + 1, .bl _, _ => rfl
  | n + 1, .int _, _ => rfl
  | n + 1, .str _, _ => rfl
  | n + 1, .tup xs, h => by
    simp only [toD]
    rw [toDs_dat n xs h]
    rfl
  | n + 1, .vl xs, h => by
    simp only [toD]
    rw [toDs_dat n xs h]
    rfl
  | n + 1, .fzl _, h => by cases h
  | n + 1, .obj _ _ _, h => by cases h
  | n + 1, .ref _, h => by cases h
  | n + 1, .glo _, h => by cases h
  | n + 1, .bty _, h => by cases h
theorem toDs_dat {st : Sto} : ∀ (n : Nat) (ws : List W), W.dats n ws = true → allSome (toD st n) ws = some (W.toPs ws)
  | _, [], _ => rfl
  | n, w :: ws, h => by
    simp only [W.dats, Bool.and_eq_true] at h
    simp only [allSome, toD_dat n w h.1, toDs_dat n ws h.2]
    rfl
end
mutual
theorem lay_dat : ∀ (n : Nat) (w : W), W.dat n w = true → w.toP.canLay0 = true ∧ w.toP.depth ≤ n
  | 0, w, h => by simp [W.dat] at h
  | n + 1, .non, _ => ⟨rfl, Nat.zero_le _⟩
  | n + 1, .bl _, _ => ⟨rfl, Nat.zero_le _⟩
  | n + 1, .int _, _ => ⟨rfl, Nat.zero_le _⟩
  | n + 1, .str _, h => ⟨h, Nat.zero_le _⟩
  | n + 1, .tup xs, h => by
    obtain ⟨h1, h2⟩ := lays_dat n xs h
    exact ⟨by simpa [W.toP, PyData.canLay0] using h1, by simpa [W.toP, PyData.depth] using h2⟩
  | n + 1, .vl xs, h => by
    obtain ⟨h1, h2⟩ := lays_dat n xs h
    exact ⟨by simpa [W.toP, PyData.canLay0] using h1, by simpa [W.toP, PyData.depth] using h2⟩
  | n + 1, .fzl _, h => by cases h
  | n + 1, .obj _ _ _, h => by cases h
  | n + 1, .ref _, h => by cases h
  | n + 1, .glo _, h => by cases h
  | n + 1, .bty _, h => by cases h
theorem lays_dat : ∀ (n : Nat) (ws : List W), W.dats n ws = true → PyData.canLayAll0 (W.toPs ws) = true ∧ PyData.depthAll (W.toPs ws) ≤ n
  | _, [], _ => ⟨rfl, Nat.zero_le _⟩
  | n, w :: ws, h => by
    simp only [W.dats, Bool.and_eq_true] at h
    obtain ⟨a1, a2⟩ := lay_dat n w h.1
    obtain ⟨b1, b2⟩ := lays_dat n ws h.2
    refine ⟨by simp [W.toPs, PyData.canLayAll0, a1, b1], ?_⟩
    simp only [W.toPs, PyData.depthAll]
    omega
end
mutual
theorem eqv_dat : ∀ (n m : Nat) (a b : W), W.dat n a = true → W.dat m b = true → PyData.eqv a.toP b.toP = W.eqD a b
  | 0, _, w, _, h, _ => by simp [W.dat] at h
  | _ + 1, 0, _, w, _, h => by simp [W.dat] at h
  | n + 1, m + 1, a, b, ha, hb => by
    cases a <;> first | (cases ha; done) | skip
    all_goals cases b <;> first | (cases hb; done) | skip
    all_goals first
      | (simp only [W.toP, W.eqD, PyData.eqv]; exact eqvs_dat n m _ _ ha hb)
      | (simp [W.toP, W.eqD, PyData.eqv, eqW]; done)
      | (simp only [W.toP, W.eqD, PyData.eqv, eqW]; rw [Bool.eq_iff_iff]; simp)
theorem eqvs_dat : ∀ (n m : Nat) (xs ys : List W), W.dats n xs = true → W.dats m ys = true → PyData.eqvAll (W.toPs xs) (W.toPs ys) = W.eqDs xs ys
  | _, _, [], [], _, _ => by simp [W.toPs, W.eqDs, PyData.eqvAll]
  | _, _, [], _ :: _, _, _ => by simp [W.toPs, W.eqDs, PyData.eqvAll]
  | _, _, _ :: _, [], _, _ => by simp [W.toPs, W.eqDs, PyData.eqvAll]
  | n, m, x :: xs, y :: ys, h, q => by
    simp only [W.dats, Bool.and_eq_true] at h q
    simp only [W.toPs, W.eqDs, PyData.eqvAll]
    rw [eqv_dat n m x y h.1 q.1, eqvs_dat n m xs ys h.2 q.2]
end
theorem dataEq_dat {st : Sto} {a b : W} (ha : W.dat dep a = true) (hb : W.dat dep b = true) : dataEq st a b = some (W.eqD a b) := by
  unfold dataEq
  rw [toD_dat _ a ha, toD_dat _ b hb]
  obtain ⟨a1, a2⟩ := lay_dat _ a ha
  obtain ⟨b1, b2⟩ := lay_dat _ b hb
  have h1 : SeqAt.shaped a.toP = true := by
    unfold SeqAt.shaped
    have : a.toP.depth ≤ 64 := Nat.le_trans a2 (by decide)
    simp [a1, this]
  have h2 : SeqAt.shaped b.toP = true := by
    unfold SeqAt.shaped
    have : b.toP.depth ≤ 64 := Nat.le_trans b2 (by decide)
    simp [b1, this]
  simp only [h1, h2, Bool.and_self, if_true]
  rw [eqv_dat _ _ a b ha hb]
theorem eqT_dat {G : Prg} {cl : Cl} {neg : Bool} {st : Sto} {a b : W} (ha : W.dat dep a = true) (hb : W.dat dep b = true) : eqT G cl neg a b st = .ok (.bl (if neg then !W.eqD a b else W.eqD a b)) st := by
  simp only [eqT, eqT0, dataEq_dat ha hb, q_bindok]
@[simp] theorem dat_int {n : Nat} {i : Int} : W.dat (n + 1) (.int i) = true := rfl
@[simp] theorem dat_bl {n : Nat} {i : Bool} : W.dat (n + 1) (.bl i) = true := rfl
@[simp] theorem dat_non {n : Nat} : W.dat (n + 1) .non = true := rfl
@[simp] theorem dat_str {n : Nat} {x : Str} : W.dat (n + 1) (.str x) = PyData.strOk x := rfl
@[simp] theorem dat_tup {n : Nat} {xs : List W} : W.dat (n + 1) (.tup xs) = W.dats n xs := rfl
@[simp] theorem dat_vl {n : Nat} {xs : List W} : W.dat (n + 1) (.vl xs) = W.dats n xs := rfl
@[simp] theorem dats_nil {n : Nat} : W.dats n [] = true := by simp [W.dats]
@[simp] theorem dats_cons {n : Nat} {x : W} {xs : List W} : W.dats n (x :: xs) = (W.dat n x && W.dats n xs) := by simp [W.dats]
theorem dats_map {α : Type} {n : Nat} {f : α → W} (h : ∀ a, W.dat n (f a) = true) : ∀ xs : List α, W.dats n (xs.map f) = true
  | [] => by simp
  | x :: xs => by simp [h x, dats_map h xs]
@[simp] theorem dat_Q {n : Nat} {q : Rat} : W.dat (n + 2) (Q q) = true := by simp [Q]
@[simp] theorem eqD_tup {xs ys : List W} : W.eqD (.tup xs) (.tup ys) = W.eqDs xs ys := by simp [W.eqD]
@[simp] theorem eqD_vl {xs ys : List W} : W.eqD (.vl xs) (.vl ys) = W.eqDs xs ys := by simp [W.eqD]
@[simp] theorem eqD_int {a b : Int} : W.eqD (.int a) (.int b) = decide (a = b) := by simp [W.eqD, eqW]; rfl
@[simp] theorem eqD_str {a b : Str} : W.eqD (.str a) (.str b) = decide (a = b) := by simp [W.eqD, eqW]
@[simp] theorem eqDs_nil : W.eqDs [] [] = true := by simp [W.eqDs]
@[simp] theorem eqDs_cons {x y : W} {xs ys : List W} : W.eqDs (x :: xs) (y :: ys) = (W.eqD x y && W.eqDs xs ys) := by simp [W.eqDs]
theorem eqD_Q {a b : Rat} : W.eqD (Q a) (Q b) = decide (a = b) := by
  simp only [Q, eqD_tup, eqDs_cons, eqD_int, eqDs_nil, Bool.and_true]
  rw [← Bool.decide_and]
  congr 1
  refine propext ⟨fun h => Rat.ext h.1 (by omega), fun h => by subst h; exact ⟨rfl, rfl⟩⟩
theorem eqT_int {G : Prg} {cl : Cl} {neg : Bool} {st : Sto} {a b : Int} : eqT G cl neg (.int a) (.int b) st = .ok (.bl (if neg then !decide (a = b) else decide (a = b))) st := by
  rw [eqT_dat rfl rfl, eqD_int]
theorem eqT_Q {G : Prg} {cl : Cl} {neg : Bool} {st : Sto} {a b : Rat} : eqT G cl neg (Q a) (Q b) st = .ok (.bl (if neg then !decide (a = b) else decide (a = b))) st := by
  rw [eqT_dat dat_Q dat_Q, eqD_Q]
theorem eqDs_Q : ∀ {xs ys : List Rat}, W.eqDs (xs.map Q) (ys.map Q) = decide (xs = ys)
  | [], [] => by simp
  | [], _ :: _ => by simp [W.eqDs]
  | _ :: _, [] => by simp [W.eqDs]
  | x :: xs, y :: ys => by
    rw [List.map_cons, List.map_cons, eqDs_cons, eqD_Q, eqDs_Q, ← Bool.decide_and]
    congr 1
    simp
theorem eqDs_int : ∀ {xs ys : List Int}, W.eqDs (xs.map W.int) (ys.map W.int) = decide (xs = ys)
  | [], [] => by simp
  | [], _ :: _ => by simp [W.eqDs]
  | _ :: _, [] => by simp [W.eqDs]
  | x :: xs, y :: ys => by
    rw [List.map_cons, List.map_cons, eqDs_cons, eqD_int, eqDs_int, ← Bool.decide_and]
    congr 1
    simp
end Zv

set_option maxRecDepth 100000
set_option maxHeartbeats 4000000
/-! Ct3: contracts: sums, least numbers, tests of kinds. -/
namespace Zv
open PySem
theorem Sz.zero {n : Nat} : Sz (n + 1) 0 := ⟨Nat.two_pow_pos _, Nat.one_lt_two_pow (by omega)⟩
theorem Sz.one {n : Nat} : Sz (n + 1) 1 := ⟨Nat.one_lt_two_pow (by omega), Nat.one_lt_two_pow (by omega)⟩
theorem Sz.int {n : Nat} {i : Int} (h : i.natAbs < 2 ^ (n + 1)) : Sz (n + 1) (i : Rat) := ⟨by simpa using h, by simpa using Nat.one_lt_two_pow (by omega)⟩
theorem Q_zero : (W.tup [.int 0, .int 1]) = Q 0 := rfl
theorem Q_int (i : Int) : (W.tup [.int i, .int 1]) = Q (i : Rat) := by simp [Q]
def sumQ (qs : List Rat) (a : Rat) : Rat := qs.foldl (· + ·) a
theorem sz_sum {n : Nat} : ∀ (qs : List Rat) (m : Nat) (a : Rat), Sz m a → (∀ q ∈ qs, Sz n q) → Sz (m + qs.length * (n + 1)) (sumQ qs a)
  | [], m, a, h, _ => by simpa [sumQ] using h
  | q :: qs, m, a, h, hq => by
    have := sz_sum qs (m + n + 1) (a + q) (h.add (hq q (by simp))) (fun x hx => hq x (by simp [hx]))
    refine this.mono ?_
    simp only [List.length_cons, Nat.add_mul]
    omega
def leastQ (qs : List Rat) (a : Rat) : Rat := qs.foldl (fun f x => if x < f then x else f) a
section
variable {G : Prg} (P : Pg G) {k : Nat} {st : Sto}
include P
theorem c_total {qs : List Rat} {n : Nat} (hq : ∀ q ∈ qs, Sz n q) (hn : (qs.length + 2) * (n + 1) < 3940) : callK G (k + 4) "total" [.vl (qs.map Q)] st = .ok (Q (sumQ qs 0)) st := by
  rw [call_fn P.f_total rfl rfl, P.k_total]
  have key : ∀ (rs : List Rat) (a : Rat) (m : Nat) (o : Option W), (∀ q ∈ rs, Sz n q) → Sz m a → n ≤ m → m + (rs.length + 1) * (n + 1) < 3940 → ∃ o', forE G (callK G (k + 3)) (.nm 2) [.set 1 (.call "plus" none [.var 1, .var 2])] ⟨qs.map Q, []⟩ (rs.map Q) [some (.vl (qs.map Q)), some (Q a), o] st = .fl (.nx [some (.vl (qs.map Q)), some (Q (sumQ rs a)), o']) st := by
    intro rs
    induction rs with
    | nil => intro a m o _ _ _ _; exact ⟨o, forE_nil rfl⟩
    | cons r rs ih =>
      intro a m o h1 h2 h3 h4
      simp only [List.length_cons, Nat.add_mul] at h4
      obtain ⟨o', e⟩ := ih (a + r) (m + n + 1) (some (Q r)) (fun q hq => h1 q (by simp [hq])) (h2.add (h1 r (by simp))) (by omega) (by simp only [Nat.add_mul]; omega)
      refine ⟨o', ?_⟩
      rw [List.map_cons, forE_cons (env2 := [some (.vl (qs.map Q)), some (Q (a + r)), some (Q r)]) (st2 := st) rfl rfl]
      · exact e
      · simp [c_plus P h2 ((h1 r (by simp)).mono h3) (by omega)]
  obtain ⟨o', e⟩ := key qs 0 (n + 1) none hq Sz.zero (by omega) (by simp only [Nat.add_mul] at hn ⊢; omega)
  simp only [F_total, q_exs1, q_set, q_op, q_evs1, q_con, q_bindok, q_evs0, p_tup, List.length_cons, List.length_nil, szL, Nat.reduceAdd, Nat.reduceLeDiff, if_true, q_ofok, q_nextnx, start_, List.map_cons, List.map_nil, Nat.reduceSub, List.replicate, List.cons_append, List.nil_append, List.set_cons_succ, List.set_cons_zero, q_for, q_iseq, q_var, List.getElem?_cons_zero, seqL, Q_zero]
  rw [e]
  simp
  rw [gc_ok0 rfl]
theorem c_least {qs : List Rat} {q : Rat} {n : Nat} (hq : ∀ r ∈ q :: qs, Sz n r) (hn : n ≤ 400000) : callK G (k + 2) "least_of" [.vl ((q :: qs).map Q)] st = .ok (Q (leastQ (q :: qs) q)) st := by
  rw [call_fn P.f_least_of rfl rfl, P.k_least_of]
  have key : ∀ (L : List W) (rs : List Rat) (a : Rat) (o : Option W), (∀ q ∈ rs, Sz n q) → Sz n a → ∃ o', forE G (callK G (k + 1)) (.nm 2) [.ife (.call "less" none [.var 2, .var 1]) [.set 1 (.var 2)] []] ⟨L, []⟩ (rs.map Q) [some (.vl L), some (Q a), o] st = .fl (.nx [some (.vl L), some (Q (leastQ rs a)), o']) st := by
    intro L rs
    induction rs with
    | nil => intro a o _ _; exact ⟨o, forE_nil rfl⟩
    | cons r rs ih =>
      intro a o h1 h2
      have hr : Sz n r := h1 r (by simp)
      obtain ⟨o', e⟩ := ih (if r < a then r else a) (some (Q r)) (fun q hq => h1 q (by simp [hq])) (by split <;> assumption)
      refine ⟨o', ?_⟩
      rw [List.map_cons, forE_cons (env2 := [some (.vl L), some (Q (if r < a then r else a)), some (Q r)]) (st2 := st) rfl rfl]
      · exact e
      · by_cases h : r < a <;> simp [c_less P hr h2 hn, h]
  obtain ⟨o', e⟩ := key ((q :: qs).map Q) (q :: qs) q none hq (hq q (by simp))
  simp only [F_least_of, q_exs1, q_set, q_op, q_evs1, q_con, q_bindok, q_evs0, q_ofok, q_nextnx, start_, List.map_cons, List.map_nil, List.length_cons, List.length_nil, Nat.reduceAdd, Nat.reduceSub, List.replicate, List.cons_append, List.nil_append, List.set_cons_succ, List.set_cons_zero, q_for, q_iseq, q_var, List.getElem?_cons_zero, seqL, p_ixL, at0] at e ⊢
  rw [e]
  simp
  rw [gc_ok0 rfl]
/-! kinds -/
theorem c_isint {i : Int} : callK G (k + 1) "is_integer" [.int i] st = .ok (.bl true) st := by
  rw [call_fn P.f_is_integer rfl rfl, P.k_is_integer]
  simp [F_is_integer, P.i_int_int, P.i_bool_int]
  rw [gc_ok0 rfl]
theorem c_iscount {i : Int} : callK G (k + 2) "is_count" [.int i] st = .ok (.bl (decide (0 ≤ i))) st := by
  rw [call_fn P.f_is_count rfl rfl, P.k_is_count]
  simp [F_is_count, c_isint P]
  rw [gc_ok0 rfl]
theorem c_isnumI {i : Int} : callK G (k + 2) "is_number" [.int i] st = .ok (.bl true) st := by
  rw [call_fn P.f_is_number rfl rfl, P.k_is_number]
  simp [F_is_number, c_isint P, P.i_tuple_int]
  rw [gc_ok0 rfl]
theorem c_isnumP {p q : Int} (hq : 1 ≤ q) : callK G (k + 2) "is_number" [.tup [.int p, .int q]] st = .ok (.bl true) st := by
  rw [call_fn P.f_is_number rfl rfl, P.k_is_number]
  simp [F_is_number, c_isint P, P.i_tuple_tuple, eqT_int, hq]
  rw [gc_ok0 rfl]
theorem c_exactI {i : Int} : callK G (k + 3) "exact" [.int i] st = .ok (Q (i : Rat)) st := by
  rw [call_fn P.f_exact rfl rfl, P.k_exact]
  simp [F_exact, P.i_tuple_int, szL]
  rw [gc_ok0 rfl, Q_int]
theorem c_exactP {p : Int} {q n : Nat} (hq : q ≠ 0) (hn : q < 2 ^ n) (h : n < 7900) : callK G (k + 3) "exact" [.tup [.int p, .int q]] st = .ok (Q (mkRat p q)) st := by
  rw [call_fn P.f_exact rfl rfl, P.k_exact]
  simp [F_exact, P.i_tuple_tuple, c_reduced P hq hn h]
  rw [gc_ok0 rfl]
/-- a number as it may be passed -/
inductive Num : W → Rat → Prop
  | i (i : Int) : Num (.int i) i
  | p (p : Int) (q n : Nat) (hq : q ≠ 0) (hn : q < 2 ^ n) (h : n < 7900) : Num (.tup [.int p, .int q]) (mkRat p q)
theorem c_exact {w : W} {q : Rat} (h : Num w q) : callK G (k + 3) "exact" [w] st = .ok (Q q) st := by
  cases h with
  | i i => exact c_exactI P
  | p p q n hq hn h => exact c_exactP P hq hn h
theorem c_isnum {w : W} {q : Rat} (h : Num w q) : callK G (k + 2) "is_number" [w] st = .ok (.bl true) st := by
  cases h with
  | i i => exact c_isnumI P
  | p p q n hq hn h => exact c_isnumP P (by omega)
theorem c_ispos {w : W} {q : Rat} (h : Num w q) (h0 : 0 < q) : callK G (k + 4) "is_positive" [w] st = .ok (.bl true) st := by
  rw [call_fn P.f_is_positive rfl rfl, P.k_is_positive]
  simp [F_is_positive, c_isnum P h, c_exact P h, num_pos h0]
  rw [gc_ok0 rfl]
end
end Zv

set_option maxRecDepth 100000
set_option maxHeartbeats 4000000
/-! Ct4: contracts: rules. -/
namespace Zv
open PySem
structure Rl where
  off : Rat
  head : List Rat
  words : Str
def Rl.w (r : Rl) : W := .obj "Rule" ["offset", "head", "words"] [Q r.off, .tup (r.head.map Q), .str r.words]
def Rl.at (r : Rl) (k : Nat) : Rat := match r.head[k]? with
  | some x => x
  | none => ((k : Int) : Rat) + r.off
/-- the sizes of its numbers -/
structure Rl.Sz (r : Rl) (n : Nat) : Prop where
  off : Zv.Sz n r.off
  head : ∀ q ∈ r.head, Zv.Sz n q
  len : r.head.length ≤ 8
theorem Rl.Sz.at_ {r : Rl} {n m : Nat} (h : r.Sz n) (k : Nat) (hk : k < 2 ^ (m + 1)) : Zv.Sz (n + m + 2) (r.at k) := by
  unfold Rl.at
  split
  · rename_i x hx
    exact (h.head x (List.mem_of_getElem? hx)).mono (by omega)
  · have h1 : Zv.Sz (m + 1) ((k : Int) : Rat) := Sz.int (n := m) (i := (k : Int)) (by simpa using hk)
    have := h1.add h.off
    exact this.mono (by omega)
def fsR (r : Rl) : List (Str × W) := [("offset", Q r.off), ("head", .tup (r.head.map Q)), ("words", .str r.words)]
@[simp] theorem fl_rule {st : Sto} {r : Rl} : fldsOf st r.w = some (("Rule" : Str), fsR r) := rfl
@[simp] theorem ty_rule {st : Sto} {r : Rl} : typeOfW st r.w = some (.inr ("Rule" : Str)) := rfl
@[simp] theorem lk_off {r : Rl} : (fsR r).lookup ("offset" : Str) = some (Q r.off) := rfl
@[simp] theorem lk_head {r : Rl} : (fsR r).lookup ("head" : Str) = some (.tup (r.head.map Q)) := rfl
@[simp] theorem lk_words {r : Rl} : (fsR r).lookup ("words" : Str) = some (.str r.words) := rfl
@[simp] theorem lk_at {r : Rl} : (fsR r).lookup ("at" : Str) = none := rfl
@[simp] theorem lk_mark {r : Rl} : (fsR r).lookup ("mark" : Str) = none := rfl
@[simp] theorem lk_mb {r : Rl} : (fsR r).lookup ("marks_below" : Str) = none := rfl
@[simp] theorem rlt_rule {n : Nat} {r : Rl} : W.rlt n r.w = true := by
  simp only [Rl.w, rlt_obj, rlts_cons, rlt_Q, rlt_tup, rlt_str, rlts_nil, Bool.true_and, Bool.and_true]
  exact rlts_map (fun _ => rfl) _
/-- the least integer that is not less -/
def ceilQ (q : Rat) : Int := -(-q.num / (q.den : Int))
def Rl.below (r : Rl) (x : Rat) : Int := ((r.head.filter fun m => decide (m < x)).length : Int) + (if ceilQ (x - r.off) - r.head.length > 0 then ceilQ (x - r.off) - r.head.length else 0)
section
variable {G : Prg} (P : Pg G) {k : Nat} {st : Sto} {r : Rl} {n : Nat}
include P
theorem c_at {j : Nat} (h : r.Sz n) (hj : j < 2 ^ (n + 1)) (hn : n < 3930) : callK G (k + 4) "Rule.at" [r.w, .int j] st = .ok (Q (r.at j)) st := by
  rw [call_fn P.f_Rule_at rfl rfl, P.k_Rule_at]
  by_cases hl : j < r.head.length
  · have e : r.at j = r.head[j] := by unfold Rl.at; rw [List.getElem?_eq_getElem hl]
    have e2 : L2.atI (r.head.map Q) (j : Int) = some (Q r.head[j]) := by
      rw [at_nat (by simpa using hl), List.getElem?_map, List.getElem?_eq_getElem hl]; rfl
    simp [F_Rule_at, P.fo_head, hl, e2]
    rw [gc_ok0 rfl, e]
  · have e : r.at j = ((j : Int) : Rat) + r.off := by unfold Rl.at; rw [List.getElem?_eq_none (by omega)]
    have h1 : Zv.Sz (n + 1) ((j : Int) : Rat) := Sz.int (n := n) (i := (j : Int)) (by simpa using hj)
    have h2 := c_plus P (k := k) (st := st) h1 (h.off.mono (Nat.le_succ n)) (by omega)
    rw [← Q_int] at h2
    simp [F_Rule_at, P.fo_head, P.fo_offset, hl, szL, h2]
    rw [gc_ok0 rfl, e]
theorem c_below {x : Rat} (h : r.Sz n) (hx : Zv.Sz n x) (hn : n < 3930) : callK G (k + 5) "Rule.marks_below" [r.w, Q x] st = .ok (.int (r.below x)) st := by
  rw [call_fn P.f_Rule_marks_below rfl rfl, P.k_Rule_marks_below]
  have h1 := c_minus P (k := k) (st := st) hx h.off (by omega)
  have hsz := hx.sub h.off
  have hd : divOk ((x - r.off).den : Int) = true := div_ok (n := n + n + 1) (by have := (x - r.off).den_pos; omega) (by simpa using hsz.2) (by omega)
  have e : ∀ env : En, env[1]? = some (some (Q x)) → 3 < env.length → lcE G (callK G (k + 4)) (.nm 3) env [.call "less" none [.var 3, .var 1]] (.var 3) ⟨r.head.map Q, []⟩ (r.head.map Q) [] st = .ok ([] ++ (r.head.filter fun m => decide (m < x)).map Q) st := fun env he hl => by
    refine lcE_filter (h := Q) rfl r.head [] fun m hm => ⟨_, rfl, ?_, fun _ => ⟨?_, rfl⟩⟩
    · have : (env.set 3 (some (Q m)))[1]? = some (some (Q x)) := by rw [List.getElem?_set_ne (by decide)]; exact he
      have h3 : (env.set 3 (some (Q m)))[3]? = some (some (Q m)) := by rw [List.getElem?_set_self hl]
      simp only [q_evC1, q_call, q_evs1, q_var, this, h3, q_bindok, q_evs0, c_less P (h.head m hm) hx (by omega)]
      by_cases hm : m < x <;> simp [hm]
    · have h3 : (env.set 3 (some (Q m)))[3]? = some (some (Q m)) := by rw [List.getElem?_set_self hl]
      simp only [q_var, h3]
  have hs : r.head.length ≤ szL := Nat.le_trans h.len (by decide)
  simp [F_Rule_marks_below, P.fo_head, P.fo_offset, hs, wipeE, e, h1, hd]
  rw [gc_ok0 rfl]
  simp [Rl.below, ceilQ]
end
end Zv

set_option maxRecDepth 100000
set_option maxHeartbeats 4000000
/-! Ct5: contracts: checks, prices. -/
namespace Zv
open PySem
abbrev N (n : Nat) : W := .int (n : Int)
theorem enum_map {α : Type} (g : α → W) : ∀ (xs : List α) (k : Nat), enumW k (xs.map g) = (xs.zipIdx k).map fun p => .tup [N p.2, g p.1]
  | [], _ => rfl
  | x :: xs, k => by
    rw [List.map_cons, enumW, List.zipIdx_cons, List.map_cons, enum_map g xs (k + 1)]
theorem zip_map {α β : Type} (f : α → W) (g : β → W) : ∀ (xs : List α) (ys : List β), zipW (xs.map f) (ys.map g) = (xs.zip ys).map fun p => .tup [f p.1, g p.2]
  | [], _ => rfl
  | _ :: _, [] => rfl
  | x :: xs, y :: ys => by
    rw [List.map_cons, List.map_cons, zipW, List.zip_cons_cons, List.map_cons, zip_map f g xs ys]
theorem eqDs_N : ∀ {xs ys : List Nat}, W.eqDs (xs.map N) (ys.map N) = decide (xs = ys)
  | [], [] => by simp
  | [], _ :: _ => by simp [W.eqDs]
  | _ :: _, [] => by simp [W.eqDs]
  | x :: xs, y :: ys => by
    rw [List.map_cons, List.map_cons, eqDs_cons, eqD_int, eqDs_N, ← Bool.decide_and]
    congr 1
    simp [Int.ofNat_inj]
theorem toPs_map {α : Type} (g : α → W) : ∀ xs : List α, W.toPs (xs.map g) = xs.map fun x => (g x).toP
  | [] => rfl
  | x :: xs => by rw [List.map_cons, W.toPs, toPs_map g xs]; rfl
theorem in_N {st : Sto} {i : Nat} {t : List Nat} : prim .in_ [N i, .vl (t.map N)] st = .ok (.bl (decide (i ∈ t))) st := by
  have hd : W.dat dep (.vl (t.map N)) = true := dats_map (fun _ => rfl) t
  show pIn false (N i) (.vl (t.map N)) st = _
  have e1 : toD st dep (N i) = some (.int i) := rfl
  have e2 := toD_dat (st := st) dep _ hd
  have e3 : (W.vl (t.map N)).toP = .list (t.map fun (x : Nat) => .int (x : Int)) := by rw [W.toP, toPs_map]; rfl
  obtain ⟨l1, l2⟩ := lay_dat _ _ hd
  have hs : SeqAt.shaped (W.vl (t.map N)).toP = true := by
    unfold SeqAt.shaped
    have : (W.vl (t.map N)).toP.depth ≤ 64 := Nat.le_trans l2 (by decide)
    simp [l1, this]
  rw [e3] at e2 hs
  have hs0 : SeqAt.shaped (.int (i : Int)) = true := rfl
  unfold pIn
  simp only [e1, e2, hs, hs0, Bool.and_self, if_true, Bool.false_eq_true, if_false]
  congr 2
  rw [List.any_map, Bool.eq_iff_iff, List.any_eq_true, decide_eq_true_eq]
  constructor
  · rintro ⟨x, hx, e⟩
    have : x = i := by simpa [PyData.eqv, Int.ofNat_inj] using e
    exact this ▸ hx
  · exact fun h => ⟨i, h, by simp [PyData.eqv]⟩
theorem gc_frz {st : Sto} {xs : List W} (h : ∀ w ∈ xs, w.rlt st.length = true) : gcR false st (.ok (.ref st.length) (st ++ [.lst xs])) = .ok (.vl xs) st := by
  have e1 : allSome (frzW st.length (st ++ [.lst xs]) 4) xs = some xs := by
    induction xs with
    | nil => rfl
    | cons x xs ih =>
      have : ∀ (ys : List W) (S : Sto), (∀ w ∈ ys, w.rlt st.length = true) → allSome (frzW st.length S 4) ys = some ys := by
        intro ys S
        induction ys with
        | nil => intro _; rfl
        | cons y ys ih =>
          intro hy
          simp only [allSome, frz_pur (hy y (by simp)), ih (fun w m => hy w (by simp [m]))]
      exact this _ _ h
  have e2 : frzW st.length (st ++ [.lst xs]) 5 (.ref st.length) = some (.vl xs) := by
    unfold frzW
    have : W.rlt st.length (.ref st.length) = false := by simp [W.rlt]
    rw [this]
    simp [e1]
  simp only [gcR, gcOk_app, if_true, Bool.false_eq_true, if_false, e2, List.take_left]
section
variable {G : Prg} (P : Pg G) {k : Nat} {st : Sto} {r : Rl} {n : Nat}
include P
theorem c_checkrule : callK G (k + 1) "check_rule" [r.w] st = .ok .non st := by
  rw [call_fn P.f_check_rule rfl rfl, P.k_check_rule]
  simp [F_check_rule, P.i_Rule_Rule]
  rw [gc_ok0 rfl]
/-- claims as they may be passed -/
structure Clm (cs : List (W × Rat)) (n : Nat) : Prop where
  num : ∀ c ∈ cs, Num c.1 c.2
  pos : ∀ c ∈ cs, 0 < c.2
  sz : ∀ c ∈ cs, Zv.Sz n c.2
  one : 1 ≤ cs.length
  six : cs.length ≤ 6
theorem c_checkclaims {cs : List (W × Rat)} (h : Clm cs n) : callK G (k + 5) "check_claims" [.tup (cs.map (·.1))] st = .ok .non st := by
  rw [call_fn P.f_check_claims rfl rfl, P.k_check_claims]
  have key : ∀ (I : Itm) (ds : List (W × Rat)) (j : Nat) (w : W) (a b : Option W), I.at_ = [] → (∀ c ∈ ds, Num c.1 c.2 ∧ 0 < c.2) → ∃ a' b', forE G (callK G (k + 4)) (.tp [.nm 1, .nm 2]) [.ife (.not (.call "is_positive" none [.var 2])) [.never] []] I (enumW j (ds.map (·.1))) [some w, a, b] st = .fl (.nx [some w, a', b']) st := by
    intro I ds
    induction ds with
    | nil => intro j w a b hI _; exact ⟨a, b, forE_nil (by simp [Itm.chk, hI])⟩
    | cons c ds ih =>
      intro j w a b hI hc
      obtain ⟨h1, h2⟩ := hc c (by simp)
      obtain ⟨a', b', e⟩ := ih (j + 1) w (some (N j)) (some c.1) hI (fun d hd => hc d (by simp [hd]))
      refine ⟨a', b', ?_⟩
      rw [List.map_cons, enumW, forE_cons (env1 := [some w, some (N j), some c.1]) (env2 := [some w, some (N j), some c.1]) (st2 := st) (by simp [Itm.chk, hI]) rfl]
      · exact e
      · simp [c_ispos P h1 h2]
  obtain ⟨a', b', e⟩ := key ⟨enumW 0 (cs.map (·.1)), []⟩ cs 0 (.tup (cs.map (·.1))) none none rfl (fun c hc => ⟨h.num c hc, h.pos c hc⟩)
  have hl1 := h.one
  have hl2 := h.six
  have hl3 : (cs.length : Int) ≤ 6 := by omega
  have hl4 : (1 : Int) ≤ cs.length := by omega
  simp [F_check_claims, P.i_tuple_tuple, P.c_MOST_CLAIMANTS, hl3, hl4, e]
  rw [gc_ok0 rfl]
theorem c_exactclaims {cs : List (W × Rat)} (h : Clm cs n) : callK G (k + 4) "exact_claims" [.tup (cs.map (·.1))] st = .ok (.vl (cs.map fun c => Q c.2)) st := by
  rw [call_fn P.f_exact_claims rfl rfl, P.k_exact_claims]
  have hl2 : cs.length ≤ szL := Nat.le_trans h.six (by decide)
  have e := lcE_map (G := G) (cl := callK G (k + 3)) (t := .nm 1) (env := [some (.tup (cs.map (·.1))), none]) (cs := []) (e := .call "exact" none [.var 1]) (I := ⟨cs.map (·.1), []⟩) (st := st) (g := fun c : W × Rat => c.1) (h := fun c => Q c.2) rfl cs [] (fun c hc => ⟨[some (.tup (cs.map (·.1))), some c.1], rfl, rfl, by simp [c_exact P (h.num c hc)], rfl⟩)
  simp [F_exact_claims, hl2, wipeE, e]
  rw [gc_ok0 (by simp only [rlt_vl]; exact rlts_map (fun _ => rfl) _)]
theorem c_checkitems {cs : List (W × Rat)} {items : Nat} (h : Clm cs n) (hi : items ≤ 10 ^ 18) : callK G (k + 6) "check_items" [r.w, .tup (cs.map (·.1)), N items] st = .ok .non st := by
  rw [call_fn P.f_check_items rfl rfl, P.k_check_items]
  have h1 : ¬ (10 : Int) ^ 18 < items := by
    have : ((10 : Int) ^ 18) = ((10 ^ 18 : Nat) : Int) := by simp
    omega
  have h2 : ¬ (1000000000000000000 : Int) < items := by omega
  simp [F_check_items, c_checkrule P, c_checkclaims P h, c_iscount P, P.c_MOST_ITEMS, h1, h2]
  rw [gc_ok0 rfl]
theorem c_checkdiv {ds : List Nat} (h : ds.length ≤ 1000) : callK G (k + 3) "check_division" [.tup (ds.map N), N ds.length] st = .ok .non st := by
  rw [call_fn P.f_check_division rfl rfl, P.k_check_division]
  have key : ∀ (I : Itm) (es : List Nat) (j : Nat) (w v : W) (a b : Option W), I.at_ = [] → ∃ a' b', forE G (callK G (k + 2)) (.tp [.nm 2, .nm 3]) [.ife (.not (.call "is_count" none [.var 3])) [.never] []] I (enumW j (es.map N)) [some w, some v, a, b] st = .fl (.nx [some w, some v, a', b']) st := by
    intro I es
    induction es with
    | nil => intro j w v a b hI; exact ⟨a, b, forE_nil (by simp [Itm.chk, hI])⟩
    | cons c ds ih =>
      intro j w v a b hI
      obtain ⟨a', b', e⟩ := ih (j + 1) w v (some (N j)) (some (N c)) hI
      refine ⟨a', b', ?_⟩
      rw [List.map_cons, enumW, forE_cons (env1 := [some w, some v, some (N j), some (N c)]) (env2 := [some w, some v, some (N j), some (N c)]) (st2 := st) (by simp [Itm.chk, hI]) rfl]
      · exact e
      · simp [c_iscount P]
  obtain ⟨a', b', e⟩ := key ⟨enumW 0 (ds.map N), []⟩ ds 0 (.tup (ds.map N)) (N ds.length) none none rfl
  simp [F_check_division, P.i_tuple_tuple, eqT_int, e]
  rw [gc_ok0 rfl]
end
end Zv

set_option maxRecDepth 100000
set_option maxHeartbeats 4000000
/-! Ct6: contracts: cheapest, settled. -/
namespace Zv
open PySem
theorem Rl.below_nonneg {r : Rl} {x : Rat} : 0 ≤ r.below x := by
  unfold Rl.below
  split <;> omega
def Rl.belowN (r : Rl) (x : Rat) : Nat := (r.below x).toNat
theorem Rl.belowN_eq {r : Rl} {x : Rat} : (r.belowN x : Int) = r.below x := by
  unfold Rl.belowN
  have := Rl.below_nonneg (r := r) (x := x)
  omega
def prices (r : Rl) (qs : List Rat) (cs : List Nat) : List Rat := (cs.zip qs).map fun p => r.at p.1 / p.2
/-- the places of the least ones -/
def leasts (ps : List Rat) : List Nat := match ps with
  | [] => []
  | p :: _ => ((ps.zipIdx).filter fun x => decide (x.1 = leastQ ps p)).map (·.2)
def cheap (r : Rl) (qs : List Rat) (cs : List Nat) : List Nat := leasts (prices r qs cs)
def bump (cs t : List Nat) : List Nat := (cs.zipIdx).map fun p => if p.2 ∈ t then p.1 + 1 else p.1
def settleGo (r : Rl) (qs : List Rat) : Nat → List Nat → Int → List Nat → List Nat × Int × List Nat
  | 0, cs, l, t => (cs, l, t)
  | n + 1, cs, l, t => if (t.length : Int) ≤ l then settleGo r qs n (bump cs t) (l - t.length) (cheap r qs (bump cs t)) else (cs, l, t)
/-- the counts at the price of the start -/
def firstCounts (r : Rl) (qs : List Rat) (items : Nat) : List Nat := qs.map fun q => r.belowN (((if ((items : Int) - 10 * qs.length) > 0 then ((items : Int) - 10 * qs.length) else 0 : Int) : Rat) / sumQ qs 0 * q)
def settleM (r : Rl) (qs : List Rat) (items : Nat) : List Nat × Int × List Nat :=
  let cs := firstCounts r qs items
  let l : Int := (items : Int) - ((cs.sum : Nat) : Int)
  settleGo r qs (l.toNat + 1) cs l (cheap r qs cs)
theorem leastQ_cons {q a : Rat} {qs : List Rat} : leastQ (q :: qs) a = leastQ qs (if q < a then q else a) := rfl
theorem leasts_ne : ∀ {ps : List Rat}, ps ≠ [] → leasts ps ≠ [] := by
  intro ps h
  cases ps with
  | nil => exact absurd rfl h
  | cons p ps =>
    have key : ∀ (qs : List Rat) (a : Rat), leastQ qs a = a ∨ leastQ qs a ∈ qs := by
      intro qs
      induction qs with
      | nil => intro a; exact .inl rfl
      | cons q qs ih =>
        intro a
        rw [leastQ_cons]
        by_cases hq : q < a
        · rw [if_pos hq]
          rcases ih q with h | h
          · right; rw [h]; simp
          · right; simp [h]
        · rw [if_neg hq]
          rcases ih a with h | h
          · left; exact h
          · right; simp [h]
    have hm : leastQ (p :: ps) p ∈ p :: ps := by
      rcases key (p :: ps) p with h | h
      · rw [h]; simp
      · exact h
    obtain ⟨i, hi, e⟩ := List.getElem_of_mem hm
    have : ((p :: ps)[i], i) ∈ (p :: ps).zipIdx := by
      rw [List.mem_zipIdx_iff_getElem?]
      simp [List.getElem?_eq_getElem hi]
    intro h0
    have h1 : ((p :: ps)[i], i) ∈ ((p :: ps).zipIdx).filter fun x => decide (x.1 = leastQ (p :: ps) p) := by
      rw [List.mem_filter]
      exact ⟨this, by simp [e]⟩
    have : i ∈ leasts (p :: ps) := List.mem_map.mpr ⟨_, h1, rfl⟩
    rw [h0] at this
    cases this
section
variable {G : Prg} (P : Pg G) {k : Nat} {st : Sto} {r : Rl} {n : Nat}
include P
theorem c_cheapest {qs : List Rat} {cs : List Nat} {w : W} (hw : items st w = some (cs.map N) ∧ wat w (cs.map N) = []) (hr : r.Sz n) (hq : ∀ q ∈ qs, Zv.Sz n q ∧ 0 < q) (hc : ∀ c ∈ cs, c < 2 ^ (n + 1)) (hl : cs.length = qs.length) (h1 : 1 ≤ qs.length) (h6 : qs.length ≤ 1000) (hn : n < 1300) :
    callK G (k + 5) "cheapest" [r.w, .vl (qs.map Q), w] st = .ok (.vl ((cheap r qs cs).map N)) st := by
  rw [call_fn P.f_cheapest rfl rfl, P.k_cheapest]
  have hz : zipItm w (.vl (qs.map Q)) st = .ok ⟨zipW (cs.map N) (qs.map Q), []⟩ st := by
    unfold zipItm
    rw [hw.1]
    show R.ok (Itm.mk _ (wat w (cs.map N) ++ [])) st = _
    rw [hw.2]
    rfl
  have hzl : (cs.zip qs).length = qs.length := by rw [List.length_zip, hl, Nat.min_self]
  have hsz : ∀ p ∈ cs.zip qs, Zv.Sz (2 * n + 2) (r.at p.1) ∧ Zv.Sz n p.2 ∧ 0 < p.2 ∧ p.1 < 2 ^ (n + 1) := fun p hp => by
    obtain ⟨a, b⟩ := p
    have m1 := List.of_mem_zip hp
    have e1 := hr.at_ (m := n) a (hc a m1.1)
    exact ⟨e1.mono (by omega), (hq b m1.2).1, (hq b m1.2).2, hc a m1.1⟩
  have e1 : ∀ env : En, 5 < env.length → env[0]? = some (some r.w) → lcE G (callK G (k + 4)) (.tp [.nm 4, .nm 5]) env [] (.call "over" none [.meth (.var 0) "at" none [.var 4], .var 5]) ⟨zipW (cs.map N) (qs.map Q), []⟩ (zipW (cs.map N) (qs.map Q)) [] st = .ok ([] ++ (cs.zip qs).map fun p => Q (r.at p.1 / p.2)) st := fun env he h0 => by
    conv => lhs; arg 8; rw [zip_map]
    refine lcE_map rfl (cs.zip qs) [] fun p hp => ⟨(env.set 4 (some (N p.1))).set 5 (some (Q p.2)), rfl, rfl, ?_, rfl⟩
    obtain ⟨s1, s2, s3, s4⟩ := hsz p hp
    have g0 : ((env.set 4 (some (N p.1))).set 5 (some (Q p.2)))[0]? = some (some r.w) := by rw [List.getElem?_set_ne (by decide), List.getElem?_set_ne (by decide)]; exact h0
    have g4 : ((env.set 4 (some (N p.1))).set 5 (some (Q p.2)))[4]? = some (some (N p.1)) := by rw [List.getElem?_set_ne (by decide), List.getElem?_set_self (by omega)]
    have g5 : ((env.set 4 (some (N p.1))).set 5 (some (Q p.2)))[5]? = some (some (Q p.2)) := by rw [List.getElem?_set_self (by simp; omega)]
    have ca := c_at P (k := k) (st := st) hr s4 (by omega)
    have co := c_over P (k := k + 1) (st := st) s3 s1 (s2.mono (by omega)) (by omega)
    simp only [q_call, q_evs1, q_meth, q_var, g0, g4, g5, q_bindok, fl_rule, lk_at, Option.isNone_none, if_true, P.m_at, q_evs0, ca, co]
  have hps : prices r qs cs = (cs.zip qs).map fun p => r.at p.1 / p.2 := rfl
  have e1' : (cs.zip qs).map (fun p => Q (r.at p.1 / p.2)) = (prices r qs cs).map Q := by rw [hps, List.map_map]; rfl
  rw [e1'] at e1
  have hpl : (prices r qs cs).length = qs.length := by rw [hps, List.length_map, hzl]
  obtain ⟨p0, ps, hp0⟩ : ∃ p0 ps, prices r qs cs = p0 :: ps := by
    cases h : prices r qs cs with
    | nil => rw [h] at hpl; simp at hpl; omega
    | cons a b => exact ⟨a, b, rfl⟩
  have hpsz : ∀ x ∈ p0 :: ps, Zv.Sz (3 * n + 2) x := fun x hx => by
    rw [← hp0, hps] at hx
    obtain ⟨p, hp, rfl⟩ := List.mem_map.mp hx
    obtain ⟨s1, s2, s3, s4⟩ := hsz p hp
    exact (Sz.div s3 s1 s2).mono (by omega)
  have e2 := c_least P (k := k + 2) (st := st) hpsz (by omega)
  rw [← hp0] at e2
  have e3 : ∀ env : En, 8 < env.length → env[6]? = some (some (Q (leastQ (prices r qs cs) p0))) → lcE G (callK G (k + 4)) (.tp [.nm 7, .nm 8]) env [.eqo false (.var 8) (.var 6)] (.var 7) ⟨enumW 0 ((prices r qs cs).map Q), []⟩ (enumW 0 ((prices r qs cs).map Q)) [] st = .ok ([] ++ (((prices r qs cs).zipIdx).filter fun x => decide (x.1 = leastQ (prices r qs cs) p0)).map fun x => N x.2) st := fun env he h6 => by
    conv => lhs; arg 8; rw [enum_map]
    refine lcE_filter rfl ((prices r qs cs).zipIdx) [] fun p hp => ⟨(env.set 7 (some (N p.2))).set 8 (some (Q p.1)), rfl, ?_, fun _ => ⟨?_, rfl⟩⟩
    · have g6 : ((env.set 7 (some (N p.2))).set 8 (some (Q p.1)))[6]? = some (some (Q (leastQ (prices r qs cs) p0))) := by rw [List.getElem?_set_ne (by decide), List.getElem?_set_ne (by decide)]; exact h6
      have g8 : ((env.set 7 (some (N p.2))).set 8 (some (Q p.1)))[8]? = some (some (Q p.1)) := by rw [List.getElem?_set_self (by simp; omega)]
      simp only [q_evC1, q_eqo, q_var, g6, g8, q_bindok, eqT_Q, Bool.false_eq_true, if_false, q_evC0]
      by_cases h : p.1 = leastQ (prices r qs cs) p0 <;> simp [h]
    · have g7 : ((env.set 7 (some (N p.2))).set 8 (some (Q p.1)))[7]? = some (some (N p.2)) := by rw [List.getElem?_set_ne (by decide), List.getElem?_set_self (by omega)]
      simp only [q_var, g7]
  have hch : (cheap r qs cs).map N = (((prices r qs cs).zipIdx).filter fun x => decide (x.1 = leastQ (prices r qs cs) p0)).map fun x => N x.2 := by
    unfold cheap leasts
    conv => lhs; rw [hp0]
    simp only
    rw [List.map_map, hp0]
    rfl
  have hz2 : (zipW (cs.map N) (qs.map Q)).length ≤ szL := by
    rw [zip_map, List.length_map, hzl]; exact Nat.le_trans h6 (by decide)
  have hz3 : (enumW 0 ((prices r qs cs).map Q)).length ≤ szL := by
    rw [enum_map, List.length_map, List.length_zipIdx, hpl]; exact Nat.le_trans h6 (by decide)
  simp only [F_cheapest, q_exs1, q_set, q_lc, q_izip, q_var, start_, List.map_cons, List.map_nil, List.length_cons, List.length_nil, Nat.reduceAdd, Nat.reduceSub, List.replicate, List.cons_append, List.nil_append, List.getElem?_cons_zero, List.getElem?_cons_succ, q_bindok, hz, hz2, if_true, wipeE, List.set_cons_succ, List.set_cons_zero]
  rw [e1 _ (by simp) rfl]
  simp only [q_bindok, List.nil_append, mkLf, noErr_ok, q_ofok, q_nextnx, q_call, q_evs1, q_var, List.getElem?_cons_zero, List.getElem?_cons_succ, q_evs0, List.set_cons_succ, List.set_cons_zero, e2, q_ret, q_lc, q_ienum, enumL, hz3, if_true, wipeE]
  rw [e3 _ (by simp) rfl]
  simp only [q_bindok, List.nil_append, mkLf, noErr_ok, q_ofok, q_nextrt, q_finrt, ← hch]
  rw [gc_ok0 (by simp only [rlt_vl]; exact rlts_map (fun _ => rfl) _)]
end
end Zv

set_option maxRecDepth 100000
set_option maxHeartbeats 4000000
/-! Ct7: contracts: settled, choices, divisions. -/
namespace Zv
open PySem
theorem allSome_ints {α : Type} {f : α → Int} : ∀ xs : List α, allSome W.int? (xs.map fun x => .int (f x)) = some (xs.map f)
  | [] => rfl
  | x :: xs => by simp [allSome, W.int?, allSome_ints xs]
theorem sum_N (cs : List Nat) : (cs.map fun (c : Nat) => (c : Int)).sum = ((cs.sum : Nat) : Int) := by
  induction cs with
  | nil => rfl
  | cons c cs ih => simp [ih]
theorem p_sumN {st : Sto} {cs : List Nat} : prim .sum [.vl (cs.map N)] st = .ok (.int ((cs.sum : Nat) : Int)) st := by
  show pSum (.vl (cs.map N)) st = _
  unfold pSum
  simp only [lstOf, allSome_ints (f := fun c : Nat => (c : Int)) cs, sum_N]
theorem bump_len {cs t : List Nat} : (bump cs t).length = cs.length := by simp [bump]
theorem bump_le {cs t : List Nat} {B : Nat} (h : ∀ c ∈ cs, c ≤ B) : ∀ c ∈ bump cs t, c ≤ B + 1 := fun c hc => by
  obtain ⟨p, hp, rfl⟩ := List.mem_map.mp hc
  have := h p.1 (by
    have := List.mem_zipIdx_iff_getElem?.mp hp
    exact List.mem_of_getElem? this)
  split <;> omega
theorem cheap_ne {r : Rl} {qs : List Rat} {cs : List Nat} (hl : cs.length = qs.length) (h1 : 1 ≤ qs.length) : 1 ≤ (cheap r qs cs).length := by
  have : prices r qs cs ≠ [] := by
    intro h
    have : (prices r qs cs).length = qs.length := by simp [prices, hl]
    rw [h] at this
    simp at this
    omega
  have := leasts_ne this
  cases h : cheap r qs cs with
  | nil => exact absurd h this
  | cons a b => simp
theorem settle_len {r : Rl} {qs : List Rat} : ∀ (f : Nat) (cs : List Nat) (l : Int) (t : List Nat), (settleGo r qs f cs l t).1.length = cs.length
  | 0, cs, l, t => rfl
  | f + 1, cs, l, t => by
    unfold settleGo
    split
    · rw [settle_len f, bump_len]
    · rfl
theorem below_le {r : Rl} {x : Rat} (hl : r.head.length ≤ 8) : r.belowN x ≤ 8 + (x - r.off).num.natAbs := by
  unfold Rl.belowN Rl.below ceilQ
  have h1 : (r.head.filter fun m => decide (m < x)).length ≤ 8 := Nat.le_trans (List.length_filter_le _ _) hl
  have hd : 0 < ((x - r.off).den : Int) := by have := (x - r.off).den_pos; omega
  have h2 : -(-(x - r.off).num / ((x - r.off).den : Int)) ≤ ((x - r.off).num.natAbs : Int) := by
    have h3 : -((x - r.off).num.natAbs : Int) ≤ -(x - r.off).num / ((x - r.off).den : Int) := by
      rw [Int.le_ediv_iff_mul_le hd]
      have h4 : -((x - r.off).num.natAbs : Int) * ((x - r.off).den : Int) ≤ -((x - r.off).num.natAbs : Int) * 1 := by
        apply Int.mul_le_mul_of_nonpos_left
        · omega
        · omega
      omega
    omega
  split <;> omega
section
variable {G : Prg} (P : Pg G) {k : Nat} {st : Sto} {r : Rl} {n : Nat}
include P
theorem c_settled {qs : List Rat} {items : Nat} (hr : r.Sz n) (hq : ∀ q ∈ qs, Zv.Sz n q ∧ 0 < q) (h1 : 1 ≤ qs.length) (h6 : qs.length ≤ 6) (hn : n ≤ 130) (hi : items ≤ 10 ^ 18) (hs : 0 < sumQ qs 0) :
    callK G (k + 6) "settled" [r.w, .vl (qs.map Q), N items] st = .ok (.tup [.vl ((settleM r qs items).1.map N), .int (settleM r qs items).2.1, .vl ((settleM r qs items).2.2.map N)]) st := by
  rw [call_fn P.f_settled rfl rfl, P.k_settled]
  -- the price of the start
  let a : Int := if ((items : Int) - 10 * qs.length) > 0 then ((items : Int) - 10 * qs.length) else 0
  have ha : Zv.Sz 64 (a : Rat) := by
    refine Sz.int (n := 63) ?_
    have h10 : (10 : Nat) ^ 18 < 2 ^ (63 + 1) := by decide
    have : a.natAbs ≤ items := by
      show (if ((items : Int) - 10 * qs.length) > 0 then ((items : Int) - 10 * qs.length) else 0 : Int).natAbs ≤ items
      split <;> omega
    omega
  have htot := c_total P (k := k + 1) (st := st) (n := n) (qs := qs) (fun q hq' => (hq q hq').1) (by
    have : (qs.length + 2) * (n + 1) ≤ 8 * 131 := Nat.mul_le_mul (by omega) (by omega)
    omega)
  have htsz : Zv.Sz 788 (sumQ qs 0) := (sz_sum qs 1 0 Sz.zero (fun q hq' => (hq q hq').1)).mono (by
    have : qs.length * (n + 1) ≤ 6 * 131 := Nat.mul_le_mul (by omega) (by omega)
    omega)
  have hst := c_over P (k := k + 2) (st := st) hs (ha.mono (m := 788) (by omega)) htsz (by omega)
  have hssz : Zv.Sz 852 ((a : Rat) / sumQ qs 0) := (Sz.div hs ha htsz).mono (by omega)
  have hmul : mulOk 10 (qs.length : Int) = true := mul_ok (n := 10) (m := 10) (by decide) (by simp; omega) (by omega)
  -- the counts at this price
  have hcsz : ∀ q ∈ qs, Zv.Sz 982 ((a : Rat) / sumQ qs 0 * q) := fun q hq' => (hssz.mul (hq q hq').1).mono (by omega)
  have e1 : ∀ env : En, 5 < env.length → env[0]? = some (some r.w) → env[3]? = some (some (Q ((a : Rat) / sumQ qs 0))) → lcE G (callK G (k + 5)) (.nm 5) env [] (.meth (.var 0) "marks_below" none [.call "times" none [.var 3, .var 5]]) ⟨qs.map Q, []⟩ (qs.map Q) [] st = .ok ([] ++ qs.map fun q => N (r.belowN ((a : Rat) / sumQ qs 0 * q))) st := fun env he h0 h3 => by
    refine lcE_map rfl qs [] fun q hq' => ⟨env.set 5 (some (Q q)), rfl, rfl, ?_, rfl⟩
    have g0 : (env.set 5 (some (Q q)))[0]? = some (some r.w) := by rw [List.getElem?_set_ne (by decide)]; exact h0
    have g3 : (env.set 5 (some (Q q)))[3]? = some (some (Q ((a : Rat) / sumQ qs 0))) := by rw [List.getElem?_set_ne (by decide)]; exact h3
    have g5 : (env.set 5 (some (Q q)))[5]? = some (some (Q q)) := by rw [List.getElem?_set_self (by omega)]
    have ct := c_times P (k := k + 2) (st := st) hssz ((hq q hq').1.mono (m := 852) (by omega)) (by omega)
    have cb := c_below P (k := k) (st := st) (n := 982) (r := r) ⟨hr.off.mono (by omega), fun x hx => (hr.head x hx).mono (by omega), hr.len⟩ (hcsz q hq') (by omega)
    simp only [q_meth, q_call, q_evs1, q_var, g0, g3, g5, q_bindok, fl_rule, lk_mb, Option.isNone_none, if_true, P.m_marks_below, q_evs0, ct, cb]
    rw [N, Rl.belowN_eq]
  have hfc : (qs.map fun q => N (r.belowN ((a : Rat) / sumQ qs 0 * q))) = (firstCounts r qs items).map N := by
    unfold firstCounts
    rw [List.map_map]
    rfl
  rw [hfc] at e1
  have hfl : (firstCounts r qs items).length = qs.length := by simp [firstCounts]
  have hfb : ∀ c ∈ firstCounts r qs items, c ≤ 8 + 2 ^ 1113 := fun c hc => by
    obtain ⟨q, hq', rfl⟩ := List.mem_map.mp hc
    have h2 := (hcsz q hq').sub hr.off
    have h3 := below_le (r := r) (x := (a : Rat) / sumQ qs 0 * q) hr.len
    have h4 : ((a : Rat) / sumQ qs 0 * q - r.off).num.natAbs < 2 ^ 1113 := pow_le h2.1 (by omega)
    exact Nat.le_trans h3 (by omega)
  -- the loop
  let E : List Nat → Int → List Nat → En := fun cs l t => [some r.w, some (.vl (qs.map Q)), some (N items), some (Q ((a : Rat) / sumQ qs 0)), some (.vl (cs.map N)), none, some (.int l), some (.vl (t.map N)), none, none]
  have hr' : r.Sz 1200 := ⟨hr.off.mono (by omega), fun x hx => (hr.head x hx).mono (by omega), hr.len⟩
  have hq2 : ∀ q ∈ qs, Zv.Sz 1200 q ∧ 0 < q := fun q hq' => ⟨(hq q hq').1.mono (by omega), (hq q hq').2⟩
  have hB : (8 + 2 ^ 1113 + 10 ^ 18 : Nat) < 2 ^ (1200 + 1) := by decide +kernel
  have cheapc : ∀ cs : List Nat, cs.length = qs.length → (∀ c ∈ cs, c ≤ 8 + 2 ^ 1113 + 10 ^ 18) → callK G (k + 5) "cheapest" [r.w, .vl (qs.map Q), .vl (cs.map N)] st = .ok (.vl ((cheap r qs cs).map N)) st := fun cs hl hc =>
    c_cheapest P (w := .vl (cs.map N)) ⟨rfl, rfl⟩ hr' hq2 (fun c hc' => Nat.lt_of_le_of_lt (hc c hc') hB) hl h1 (by omega) (by omega)
  have loop : ∀ (f F : Nat) (cs : List Nat) (l : Int) (t : List Nat), f ≤ F → l.toNat < f → cs.length = qs.length → (∀ c ∈ cs, c + l.toNat ≤ 8 + 2 ^ 1113 + 10 ^ 18) → t = cheap r qs cs →
      whE G (callK G (k + 5)) (.op .le [.op .len [.var 7], .var 6]) [.set 4 (.lc false (.tp [.nm 8, .nm 9]) [8, 9] (.enum (.var 4)) [] (.ite (.op .in_ [.var 8, .var 7]) (.op .add [.var 9, .con (.int (1))]) (.var 9))), .aug 6 true (.op .len [.var 7]), .set 7 (.call "cheapest" none [.var 0, .var 1, .var 4])] F (E cs l t) st = .fl (.nx (E (settleGo r qs f cs l t).1 (settleGo r qs f cs l t).2.1 (settleGo r qs f cs l t).2.2)) st := by
    intro f
    induction f with
    | zero => intro F cs l t _ h; omega
    | succ f ih =>
      intro F cs l t hF hf hl hc ht
      obtain ⟨F, rfl⟩ : ∃ F', F = F' + 1 := ⟨F - 1, by omega⟩
      by_cases hgo : (t.length : Int) ≤ l
      · have hs1 : settleGo r qs (f + 1) cs l t = settleGo r qs f (bump cs t) (l - t.length) (cheap r qs (bump cs t)) := by
          rw [settleGo, if_pos hgo]
        have ht1 : 1 ≤ t.length := by rw [ht]; exact cheap_ne hl h1
        have hbl : (bump cs t).length = qs.length := by rw [bump_len, hl]
        have hbb : ∀ c ∈ bump cs t, c + (l - t.length).toNat ≤ 8 + 2 ^ 1113 + 10 ^ 18 := fun c hc' => by
          have h2 : ∀ c ∈ cs, c ≤ 8 + 2 ^ 1113 + 10 ^ 18 - l.toNat := fun c hc'' => by have := hc c hc''; omega
          have h3 := bump_le (t := t) h2 c hc'
          have h4 : l.toNat ≤ 8 + 2 ^ 1113 + 10 ^ 18 := by
            cases cs with
            | nil => simp at hl; omega
            | cons x xs => have := hc x (by simp); omega
          omega
        have el : ∀ env : En, 9 < env.length → env[7]? = some (some (.vl (t.map N))) → lcE G (callK G (k + 5)) (.tp [.nm 8, .nm 9]) env [] (.ite (.op .in_ [.var 8, .var 7]) (.op .add [.var 9, .con (.int (1))]) (.var 9)) ⟨enumW 0 (cs.map N), []⟩ (enumW 0 (cs.map N)) [] st = .ok ([] ++ (bump cs t).map N) st := fun env he h7 => by
          conv => lhs; arg 8; rw [enum_map]
          rw [bump, List.map_map]
          refine lcE_map rfl (cs.zipIdx) [] fun p hp => ⟨(env.set 8 (some (N p.2))).set 9 (some (N p.1)), rfl, rfl, ?_, rfl⟩
          have g7 : ((env.set 8 (some (N p.2))).set 9 (some (N p.1)))[7]? = some (some (.vl (t.map N))) := by rw [List.getElem?_set_ne (by decide), List.getElem?_set_ne (by decide)]; exact h7
          have g8 : ((env.set 8 (some (N p.2))).set 9 (some (N p.1)))[8]? = some (some (N p.2)) := by rw [List.getElem?_set_ne (by decide), List.getElem?_set_self (by omega)]
          have g9 : ((env.set 8 (some (N p.2))).set 9 (some (N p.1)))[9]? = some (some (N p.1)) := by rw [List.getElem?_set_self (by simp; omega)]
          simp only [q_ite, q_op, q_evs1, q_var, g7, g8, g9, q_bindok, q_evs0, in_N, q_con]
          by_cases hm : p.2 ∈ t <;> simp [hm]
        have hel : (enumW 0 (cs.map N)).length ≤ szL := by
          rw [enum_map, List.length_map, List.length_zipIdx, hl]; exact Nat.le_trans h6 (by decide)
        rw [whE_step (st1 := st) (st2 := st) (env2 := E (bump cs t) (l - t.length) (cheap r qs (bump cs t)))]
        · rw [hs1]
          exact ih F (bump cs t) (l - t.length) (cheap r qs (bump cs t)) (by omega) (by omega) hbl hbb rfl
        · simp [E, hgo]
        · simp only [E, q_exs1, q_set, q_lc, q_ienum, q_var, List.getElem?_cons_zero, List.getElem?_cons_succ, q_bindok, enumL, hel, if_true, wipeE, List.set_cons_succ, List.set_cons_zero]
          rw [el _ (by simp) rfl]
          simp only [q_bindok, List.nil_append, mkLf, noErr_ok, q_ofok, q_nextnx, q_aug, List.getElem?_cons_zero, List.getElem?_cons_succ, q_op, q_evs1, q_var, q_evs0, p_lenL, augRun, List.set_cons_succ, List.set_cons_zero, if_true, q_call, List.length_map, q_set]
          rw [cheapc (bump cs t) hbl (fun c hc' => by have := hbb c hc'; omega)]
          simp
      · have hs1 : settleGo r qs (f + 1) cs l t = (cs, l, t) := by rw [settleGo, if_neg hgo]
        rw [hs1, whE_stop (st1 := st)]
        simp [E, hgo]
  have hcb : ∀ c ∈ firstCounts r qs items, c ≤ 8 + 2 ^ 1113 + 10 ^ 18 := fun c hc => Nat.le_trans (hfb c hc) (Nat.le_add_right _ _)
  have hl0 : ((items : Int) - ((firstCounts r qs items).sum : Nat)).toNat ≤ 10 ^ 18 := by omega
  have L := loop (((items : Int) - ((firstCounts r qs items).sum : Nat)).toNat + 1) (2 ^ 7900) (firstCounts r qs items) ((items : Int) - ((firstCounts r qs items).sum : Nat)) (cheap r qs (firstCounts r qs items)) (Nat.le_trans (Nat.succ_le_succ hl0) (by decide +kernel)) (Nat.lt_succ_self _) hfl (fun c hc => Nat.add_le_add (hfb c hc) hl0) rfl
  have hsl : qs.length ≤ szL := Nat.le_trans h6 (by decide)
  have hmm : (if (items : Int) - 10 * (qs.length : Int) > 0 then (items : Int) - 10 * (qs.length : Int) else 0) = a := rfl
  simp only [F_settled, q_exs1, q_set, q_call, q_evs1, q_op, q_con, q_glo, P.c_MARGIN, q_var, start_, List.map_cons, List.map_nil, List.length_cons, List.length_nil, Nat.reduceAdd, Nat.reduceSub, List.replicate, List.cons_append, List.nil_append, List.getElem?_cons_zero, List.getElem?_cons_succ, q_bindok, q_evs0, p_lenL, List.length_map, p_mulI, hmul, if_true, p_subI, p_max, hmm, p_tup, szL, Nat.reduceLeDiff, Q_int, htot, hst, q_ofok, List.set_cons_succ, List.set_cons_zero, q_nextnx, q_lc, q_iseq, seqL, wipeE]
  rw [if_pos (by simpa [szL] using hsl), e1 _ (by simp) rfl rfl]
  simp only [q_bindok, List.nil_append, mkLf, noErr_ok, q_ofok, q_nextnx, q_set, q_op, q_evs1, q_var, q_evs0, List.getElem?_cons_zero, List.getElem?_cons_succ, List.set_cons_succ, List.set_cons_zero, p_sumN, p_subI, q_call, cheapc (firstCounts r qs items) hfl hcb, q_whl, P.fuel]
  rw [show whE G (callK G (k + 5)) _ _ (2 ^ 7900) _ st = _ from L]
  simp only [E, q_nextnx, q_exs1, q_ret, q_op, q_evs1, q_var, q_evs0, List.getElem?_cons_zero, List.getElem?_cons_succ, q_bindok, p_tup, List.length_cons, List.length_nil, Nat.reduceAdd, szL, Nat.reduceLeDiff, if_true, q_ofok, q_nextrt, q_finrt]
  rw [gc_ok0 (by simp only [rlt_tup, rlts_cons, rlt_vl, rlt_int, rlts_nil, Bool.and_true, Bool.true_and]; rw [rlts_map (fun _ => rfl), rlts_map (fun _ => rfl)]; rfl)]
  rfl
end
end Zv

set_option maxRecDepth 100000
set_option maxHeartbeats 4000000
/-! Ct8: contracts: choices, divisions. -/
namespace Zv
open PySem
def choicesM : List Nat → Nat → List (List Nat)
  | _, 0 => [[]]
  | [], _ + 1 => []
  | p :: ps, n + 1 => if (p :: ps).length < n + 1 then [] else (choicesM ps n).map (p :: ·) ++ choicesM ps (n + 1)
theorem choices_len : ∀ (ps : List Nat) (n : Nat), (choicesM ps n).length ≤ 2 ^ ps.length
  | ps, 0 => by
    have : (choicesM ps 0).length = 1 := by cases ps <;> rfl
    rw [this]
    exact Nat.one_le_two_pow
  | [], n + 1 => by simp [choicesM]
  | p :: ps, n + 1 => by
    unfold choicesM
    split
    · simp
    · have h1 := choices_len ps n
      have h2 := choices_len ps (n + 1)
      simp only [List.length_append, List.length_map, List.length_cons, Nat.pow_succ]
      omega
theorem choices_mem : ∀ (ps : List Nat) (n : Nat), ∀ c ∈ choicesM ps n, c.length ≤ ps.length
  | ps, 0 => by
    have : choicesM ps 0 = [[]] := by cases ps <;> rfl
    rw [this]
    simp
  | [], n + 1 => by simp [choicesM]
  | p :: ps, n + 1 => by
    unfold choicesM
    split
    · simp
    · intro c hc
      rcases List.mem_append.mp hc with hc | hc
      · obtain ⟨d, hd, rfl⟩ := List.mem_map.mp hc
        have := choices_mem ps n d hd
        simp; omega
      · have := choices_mem ps (n + 1) c hc
        simp; omega
/-- a list of lists of counts -/
abbrev NN (xs : List Nat) : W := .vl (xs.map N)
theorem rlt_NN {n : Nat} {xs : List Nat} : W.rlt n (NN xs) = true := rlts_map (fun _ => rfl) _
theorem cut1 {x : Nat} {xs : List Nat} : cutW ((x :: xs).map N) (some 1) none = xs.map N := by
  unfold cutW
  have e1 : HT.sIx ((x :: xs).map N).length 0 (some 1) = 1 := by
    simp [HT.sIx]
  have e2 : HT.sIx ((x :: xs).map N).length ((x :: xs).map N).length none = xs.length + 1 := by simp [HT.sIx]
  rw [e1, e2]
  simp only [List.map_cons, List.drop_succ_cons, List.drop_zero, Nat.add_sub_cancel]
  rw [List.take_of_length_le (by simp)]
@[simp] theorem p_addL {st : Sto} {a b : List W} : prim .add [.vl a, .vl b] st = if a.length + b.length ≤ szL then .ok (.vl (a ++ b)) st else .stuck := rfl
@[simp] theorem p_slc10 {st : Sto} {a : List W} {i : Int} : prim (.slc true false) [.vl a, .int i] st = .ok (.vl (cutW a (some i) none)) st := rfl
def divOf (cs : List Nat) (ch : List Nat) : List Nat := bump cs ch
def divsM (r : Rl) (qs : List Rat) (items : Nat) : List (List Nat) := (choicesM (settleM r qs items).2.2 (settleM r qs items).2.1.toNat).map (divOf (settleM r qs items).1)
section
variable {G : Prg} (P : Pg G) {st : Sto} {r : Rl} {n : Nat}
include P
theorem c_choices : ∀ (ps : List Nat) (m k : Nat), ps.length ≤ 12 → callK G (k + ps.length + 1) "choices" [NN ps, N m] st = .ok (.vl ((choicesM ps m).map NN)) st := by
  intro ps
  induction ps with
  | nil =>
    intro m k _
    rw [call_fn P.f_choices rfl rfl, P.k_choices]
    cases m with
    | zero =>
      simp [F_choices, eqT_int, szL, choicesM]
      rw [gc_ok0 rfl]
      rfl
    | succ m =>
      have h1 : ¬ ((m : Int) + 1 = 0) := by omega
      have h2 : (0 : Int) < (m : Int) + 1 := by omega
      simp [F_choices, eqT_int, szL, choicesM, h1, h2]
      rw [gc_ok0 rfl]
  | cons p ps ih =>
    intro m k hl
    rw [call_fn P.f_choices rfl rfl, P.k_choices]
    simp only [List.length_cons] at hl
    cases m with
    | zero =>
      simp [F_choices, eqT_int, szL, choicesM]
      rw [gc_ok0 rfl]
      rfl
    | succ m =>
      have h1 : ¬ ((m : Int) + 1 = 0) := by omega
      have i1 := ih m k (by omega)
      have i2 := ih (m + 1) k (by omega)
      have hp : 2 ^ ps.length ≤ 2 ^ 12 := Nat.pow_le_pow_right (by decide) (by omega)
      have l1 := choices_len ps m
      have l2 := choices_len ps (m + 1)
      have hsz : (choicesM ps m).length ≤ szL := by simp only [szL]; omega
      have hsz2 : (choicesM ps m).length + (choicesM ps (m + 1)).length ≤ szL := by simp only [szL]; omega
      by_cases h2 : (ps.length : Int) + 1 < (m : Int) + 1
      · have h3 : (p :: ps).length < m + 1 := by simp; omega
        have h4 : (ps.length : Int) < (m : Int) := by omega
        have e : choicesM (p :: ps) (m + 1) = [] := by rw [choicesM, if_pos h3]
        rw [e]
        simp [F_choices, eqT_int, szL, h1, h2, h4]
        rw [gc_ok0 rfl]
      · have h3 : ¬ (p :: ps).length < m + 1 := by simp; omega
        have h4 : ¬ (ps.length : Int) < (m : Int) := by omega
        have e : choicesM (p :: ps) (m + 1) = (choicesM ps m).map (p :: ·) ++ choicesM ps (m + 1) := by rw [choicesM, if_neg h3]
        rw [e]
        have hk : k + (p :: ps).length = k + ps.length + 1 := rfl
        rw [hk]
        generalize k + ps.length + 1 = K at i1 i2
        have e1 : ∀ env : En, 2 < env.length → env[0]? = some (some (NN (p :: ps))) → lcE G (callK G K) (.nm 2) env [] (.lsts false [.p (.op .ix [.var 0, .con (.int (0))]), .s (.var 2)]) ⟨(choicesM ps m).map NN, []⟩ ((choicesM ps m).map NN) [] st = .ok ([] ++ (choicesM ps m).map fun c => NN (p :: c)) st := fun env he h0 => by
          refine lcE_map rfl (choicesM ps m) [] fun c hc => ⟨env.set 2 (some (NN c)), rfl, rfl, ?_, rlt_NN⟩
          have g0 : (env.set 2 (some (NN c)))[0]? = some (some (NN (p :: ps))) := by rw [List.getElem?_set_ne (by decide)]; exact h0
          have g2 : (env.set 2 (some (NN c)))[2]? = some (some (NN c)) := by rw [List.getElem?_set_self he]
          have hc' : c.length + 1 ≤ szL := by
            have := choices_mem ps m c hc
            simp only [szL]; omega
          have hi : items st (NN c) = some (c.map N) := rfl
          simp only [q_lsts, q_evRp, q_evRs, q_op, q_evs1, q_evs0, q_var, g0, g2, q_con, q_bindok, NN, List.map_cons, p_ixL, at0, q_evR0, items, List.append_nil, p_lst, List.length_cons, List.length_map, hc', if_true, mkLf]
        have hcut : cutW (N p :: ps.map N) (some 1) none = ps.map N := cut1 (x := p) (xs := ps)
        have hm1 : (m : Int) + 1 - 1 = m := by omega
        have i2' : callK G K "choices" [.vl (ps.map N), .int ((m + 1 : Nat) : Int)] st = .ok (.vl ((choicesM ps (m + 1)).map NN)) st := i2
        have i1' : callK G K "choices" [.vl (ps.map N), .int (m : Int)] st = .ok (.vl ((choicesM ps m).map NN)) st := i1
        have h1' : ¬ ((m + 1 : Nat) : Int) = 0 := by omega
        have h2' : ¬ ((ps.length + 1 : Nat) : Int) < ((m + 1 : Nat) : Int) := by omega
        have hm1' : ((m + 1 : Nat) : Int) - 1 = m := by omega
        simp only [F_choices, q_exs1, q_ife, q_eqo, q_var, start_, List.map_cons, List.map_nil, List.length_cons, List.length_nil, Nat.reduceAdd, Nat.reduceSub, List.replicate, List.cons_append, List.nil_append, List.getElem?_cons_zero, List.getElem?_cons_succ, q_bindok, q_con, eqT_int, Bool.false_eq_true, if_false, h1', decide_false, q_ofok, q_truSf, q_exs0, q_nextnx, q_op, q_evs1, q_evs0, p_lenL, List.length_map, p_ltI, h2', NN, q_ret, q_lc, q_iseq, q_call, p_slc10, p_subI, hcut, hm1', i1', seqL, hsz, if_true, wipeE, List.set_cons_succ, List.set_cons_zero]
        rw [e1 _ (by simp) rfl]
        simp only [q_bindok, List.nil_append, mkLf, noErr_ok, i2', p_addL, List.length_map, hsz2, if_true, q_ofok, q_nextrt, q_finrt]
        rw [gc_ok0 (by
          simp only [rlt_vl]
          refine rlts_of fun w hw => ?_
          rcases List.mem_append.mp hw with hw | hw
          · obtain ⟨c, _, rfl⟩ := List.mem_map.mp hw; exact rlt_NN
          · obtain ⟨c, _, rfl⟩ := List.mem_map.mp hw; exact rlt_NN)]
        rw [List.map_append, List.map_map]
        rfl
theorem c_divisions {cs : List (W × Rat)} {items : Nat} {k : Nat} (hr : r.Sz n) (hc : Clm cs n) (hn : n ≤ 130) (hi : items ≤ 10 ^ 18) (hs : 0 < sumQ (cs.map (·.2)) 0) (h0 : 0 ≤ (settleM r (cs.map (·.2)) items).2.1) (ht : (settleM r (cs.map (·.2)) items).2.2.length ≤ 12) :
    callK G (k + 14) "divisions_of" [r.w, .tup (cs.map (·.1)), N items] st = .ok (.vl ((divsM r (cs.map (·.2)) items).map fun d => .tup (d.map N))) st := by
  rw [call_fn P.f_divisions_of rfl rfl, P.k_divisions_of]
  have hq : ∀ q ∈ cs.map (·.2), Zv.Sz n q ∧ 0 < q := fun q hq => by
    obtain ⟨c, hc', rfl⟩ := List.mem_map.mp hq
    exact ⟨hc.sz c hc', hc.pos c hc'⟩
  have e1 := c_exactclaims P (k := k + 9) (st := st) hc
  have e1' : (cs.map fun c => Q c.2) = (cs.map (·.2)).map Q := by rw [List.map_map]; rfl
  rw [e1'] at e1
  have e2 := c_settled P (k := k + 7) (st := st) (r := r) (n := n) (qs := cs.map (·.2)) (items := items) hr hq (by simpa using hc.one) (by simpa using hc.six) hn hi hs
  generalize hS : settleM r (cs.map (·.2)) items = S at e2 h0 ht
  obtain ⟨as, l, t⟩ := S
  simp only at e2 h0 ht
  obtain ⟨m, rfl⟩ : ∃ m : Nat, l = (m : Int) := ⟨l.toNat, by omega⟩
  have e3 : callK G (k + 13) "choices" [.vl (t.map N), .int (m : Int)] (st ++ [.lst []]) = .ok (.vl ((choicesM t m).map NN)) (st ++ [.lst []]) := by
    have := c_choices P (st := st ++ [.lst []]) t m (k + 12 - t.length) ht
    rw [show k + 12 - t.length + t.length + 1 = k + 13 by omega] at this
    exact this
  have hal : as.length = cs.length := by
    have := settle_len (r := r) (qs := cs.map (·.2)) (((items : Int) - ((firstCounts r (cs.map (·.2)) items).sum : Nat)).toNat + 1) (firstCounts r (cs.map (·.2)) items) ((items : Int) - ((firstCounts r (cs.map (·.2)) items).sum : Nat)) (cheap r (cs.map (·.2)) (firstCounts r (cs.map (·.2)) items))
    have h2 : (settleM r (cs.map (·.2)) items).1.length = (firstCounts r (cs.map (·.2)) items).length := this
    rw [hS] at h2
    simpa [firstCounts] using h2
  have hcl := choices_len t m
  have hp : 2 ^ t.length ≤ 2 ^ 12 := Nat.pow_le_pow_right (by decide) ht
  -- the loop
  let E : Option W → En := fun o => [some r.w, some (.tup (cs.map (·.1))), some (N items), some (.vl (as.map N)), some (.int (m : Int)), some (.vl (t.map N)), some (.ref st.length), o, none, none]
  have loop : ∀ (I : Itm) (ch : List (List Nat)) (acc : List W) (o : Option W), I.at_ = [] → acc.length + ch.length ≤ 10000 → ∃ o', forE G (callK G (k + 13)) (.nm 7) [.exp (.bm .append (.var 6) [.op .tuple [.lc false (.tp [.nm 8, .nm 9]) [8, 9] (.enum (.var 3)) [] (.ite (.op .in_ [.var 8, .var 7]) (.op .add [.var 9, .con (.int (1))]) (.var 9))]])] I (ch.map NN) (E o) (st ++ [.lst acc]) = .fl (.nx (E o')) (st ++ [.lst (acc ++ ch.map fun c => .tup ((divOf as c).map N))]) := by
    intro I ch
    induction ch with
    | nil =>
      intro acc o hI _
      refine ⟨o, ?_⟩
      rw [List.map_nil, forE_nil (by simp [Itm.chk, hI])]
      simp
    | cons c ch ih =>
      intro acc o hI hl
      simp only [List.length_cons] at hl
      obtain ⟨o', e⟩ := ih (acc ++ [.tup ((divOf as c).map N)]) (some (NN c)) hI (by simp; omega)
      refine ⟨o', ?_⟩
      have el : ∀ (env : En) (S : Sto), 9 < env.length → env[7]? = some (some (NN c)) → lcE G (callK G (k + 13)) (.tp [.nm 8, .nm 9]) env [] (.ite (.op .in_ [.var 8, .var 7]) (.op .add [.var 9, .con (.int (1))]) (.var 9)) ⟨enumW 0 (as.map N), []⟩ (enumW 0 (as.map N)) [] S = .ok ([] ++ (divOf as c).map N) S := fun env S he h7 => by
        conv => lhs; arg 8; rw [enum_map]
        rw [divOf, bump, List.map_map]
        refine lcE_map rfl (as.zipIdx) [] fun p hp => ⟨(env.set 8 (some (N p.2))).set 9 (some (N p.1)), rfl, rfl, ?_, rfl⟩
        have g7 : ((env.set 8 (some (N p.2))).set 9 (some (N p.1)))[7]? = some (some (NN c)) := by rw [List.getElem?_set_ne (by decide), List.getElem?_set_ne (by decide)]; exact h7
        have g8 : ((env.set 8 (some (N p.2))).set 9 (some (N p.1)))[8]? = some (some (N p.2)) := by rw [List.getElem?_set_ne (by decide), List.getElem?_set_self (by omega)]
        have g9 : ((env.set 8 (some (N p.2))).set 9 (some (N p.1)))[9]? = some (some (N p.1)) := by rw [List.getElem?_set_self (by simp; omega)]
        simp only [q_ite, q_op, q_evs1, q_var, g7, g8, g9, q_bindok, q_evs0, NN, in_N, q_con]
        by_cases hm : p.2 ∈ c <;> simp [hm]
      have hel : (enumW 0 (as.map N)).length ≤ szL := by
        rw [enum_map, List.length_map, List.length_zipIdx, hal]; exact Nat.le_trans hc.six (by decide)
      have hal2 : acc.length < szL := by simp only [szL]; omega
      rw [List.map_cons, forE_cons (env1 := E (some (NN c))) (env2 := E (some (NN c))) (st2 := st ++ [.lst (acc ++ [.tup ((divOf as c).map N)])]) (by simp [Itm.chk, hI]) rfl]
      · rw [e, List.append_assoc]
        rfl
      · simp only [E, q_exs1, q_exp, q_bm, q_var, List.getElem?_cons_zero, List.getElem?_cons_succ, q_bindok, recvOk, List.getElem?_append_right (Nat.le_refl st.length), Nat.sub_self, if_true, q_evs1, q_op, q_lc, q_ienum, enumL, hel, wipeE, List.set_cons_succ, List.set_cons_zero]
        rw [el _ _ (by simp) rfl]
        simp only [q_bindok, List.nil_append, mkLf, noErr_ok, q_evs0, p_tupleL]
        have : prim .append [.ref st.length, .tup ((divOf as c).map N)] (st ++ [.lst acc]) = .ok .non (st ++ [.lst (acc ++ [.tup ((divOf as c).map N)])]) := by
          show pAppend (.ref st.length) _ _ = _
          simp [pAppend, hal2]
        rw [this]
        simp
  obtain ⟨o', L⟩ := loop ⟨(choicesM t m).map NN, []⟩ (choicesM t m) [] none rfl (by simp; omega)
  simp only [F_divisions_of, q_exs1, q_unp, q_call, q_evs1, q_var, start_, List.map_cons, List.map_nil, List.length_cons, List.length_nil, Nat.reduceAdd, Nat.reduceSub, List.replicate, List.cons_append, List.nil_append, List.getElem?_cons_zero, List.getElem?_cons_succ, q_bindok, q_evs0, e1, e2, q_ofok, put_tp, puts1, puts0, put_nm, List.set_cons_succ, List.set_cons_zero, q_nextnx, q_set, q_op, p_lst, szL, Nat.zero_le, if_true, mkLt, q_for, q_iseq, e3, seqL]
  rw [show forE G (callK G (k + 13)) _ _ _ _ _ (st ++ [.lst []]) = _ from L]
  simp only [E, List.nil_append, q_nextnx, q_ret, q_var, List.getElem?_cons_zero, List.getElem?_cons_succ, q_ofok, q_nextrt, q_finrt]
  rw [gc_frz (fun w hw => by
    obtain ⟨c, _, rfl⟩ := List.mem_map.mp hw
    exact rlts_map (fun _ => rfl) _)]
  rw [divsM, hS]
  simp only [List.map_map, Int.toNat_natCast]
  rfl
theorem c_fairdivs {cs : List (W × Rat)} {items : Nat} {k : Nat} (hr : r.Sz n) (hc : Clm cs n) (hn : n ≤ 130) (hi : items ≤ 10 ^ 18) (hs : 0 < sumQ (cs.map (·.2)) 0) (h0 : 0 ≤ (settleM r (cs.map (·.2)) items).2.1) (ht : (settleM r (cs.map (·.2)) items).2.2.length ≤ 12) :
    callK G (k + 15) "fair_divisions" [r.w, .tup (cs.map (·.1)), N items] st = .ok (.tup ((divsM r (cs.map (·.2)) items).map fun d => .tup (d.map N))) st := by
  rw [call_fn P.f_fair_divisions rfl rfl, P.k_fair_divisions]
  have e1 := c_checkitems P (k := k + 8) (st := st) (r := r) hc hi
  have e2 := c_divisions P (k := k) (st := st) hr hc hn hi hs h0 ht
  simp only [F_fair_divisions, q_exs1, q_exp, q_call, q_evs1, q_var, start_, List.map_cons, List.map_nil, List.length_cons, List.length_nil, Nat.reduceAdd, Nat.reduceSub, List.replicate, List.cons_append, List.nil_append, List.append_nil, Nat.sub_self, List.getElem?_cons_zero, List.getElem?_cons_succ, q_bindok, q_evs0, e1, q_ofok, q_nextnx, q_ret, q_op, e2, p_tupleL, q_nextrt, q_finrt]
  rw [gc_ok0 (by
    simp only [rlt_tup]
    refine rlts_of fun w hw => ?_
    obtain ⟨c, _, rfl⟩ := List.mem_map.mp hw
    exact rlts_map (fun _ => rfl) _)]
theorem c_fairdiv {cs : List (W × Rat)} {items : Nat} {k : Nat} {d : List Nat} {ds : List (List Nat)} (hr : r.Sz n) (hc : Clm cs n) (hn : n ≤ 130) (hi : items ≤ 10 ^ 18) (hs : 0 < sumQ (cs.map (·.2)) 0) (h0 : 0 ≤ (settleM r (cs.map (·.2)) items).2.1) (ht : (settleM r (cs.map (·.2)) items).2.2.length ≤ 12) (hd : divsM r (cs.map (·.2)) items = d :: ds) :
    callK G (k + 15) "fair_division" [r.w, .tup (cs.map (·.1)), N items] st = .ok (.tup (d.map N)) st := by
  rw [call_fn P.f_fair_division rfl rfl, P.k_fair_division]
  have e1 := c_checkitems P (k := k + 8) (st := st) (r := r) hc hi
  have e2 := c_divisions P (k := k) (st := st) hr hc hn hi hs h0 ht
  rw [hd] at e2
  simp only [F_fair_division, q_exs1, q_exp, q_call, q_evs1, q_var, start_, List.map_cons, List.map_nil, List.length_cons, List.length_nil, Nat.reduceAdd, Nat.reduceSub, List.replicate, List.cons_append, List.nil_append, List.append_nil, Nat.sub_self, List.getElem?_cons_zero, List.getElem?_cons_succ, q_bindok, q_evs0, e1, q_ofok, q_nextnx, q_ret, q_op, e2, q_con, p_ixL, at0, q_nextrt, q_finrt]
  rw [gc_ok0 (by simp only [rlt_tup]; exact rlts_map (fun _ => rfl) _)]
end
end Zv

set_option maxRecDepth 100000
set_option maxHeartbeats 4000000
/-! Ct9: contracts: is_just, is_fair, next_claimants. -/
namespace Zv
open PySem
/-- these two claimants stand against the division -/
def unj (r : Rl) (qs : List Rat) (i c j o : Nat) : Bool := decide (i ≠ j) && (decide (0 < c) && decide (r.at o * qs.getD i 0 < r.at (c - 1) * qs.getD j 0))
def justM (r : Rl) (qs : List Rat) (ds : List Nat) : Bool := !(ds.zipIdx.any fun p => ds.zipIdx.any fun q => unj r qs p.2 p.1 q.2 q.1)
theorem ix_Q {st : Sto} {qs : List Rat} {i : Nat} (h : i < qs.length) : prim .ix [.vl (qs.map Q), N i] st = .ok (Q (qs.getD i 0)) st := by
  rw [p_ixL, at_nat (by simpa using h), List.getElem?_map, List.getElem?_eq_getElem h]
  simp [List.getD, List.getElem?_eq_getElem h]
section
variable {G : Prg} (P : Pg G) {st : Sto} {r : Rl} {n k : Nat}
include P
theorem c_just {qs : List Rat} {ds : List Nat} (hr : r.Sz n) (hq : ∀ q ∈ qs, Zv.Sz n q) (hd : ∀ d ∈ ds, d < 2 ^ (n + 1)) (hl : ds.length = qs.length) (hn : n < 1300) :
    callK G (k + 5) "is_just" [r.w, .vl (qs.map Q), .tup (ds.map N)] st = .ok (.bl (justM r qs ds)) st := by
  rw [call_fn P.f_is_just rfl rfl, P.k_is_just]
  have hat : ∀ m : Nat, m < 2 ^ (n + 1) → callK G (k + 4) "Rule.at" [r.w, N m] st = .ok (Q (r.at m)) st ∧ Zv.Sz (2 * n + 2) (r.at m) := fun m hm => ⟨c_at P hr hm (by omega), (hr.at_ (m := n) m hm).mono (by omega)⟩
  have hqs : ∀ i, i < qs.length → Zv.Sz (2 * n + 2) (qs.getD i 0) := fun i hi => by
    have : qs.getD i 0 ∈ qs := by
      simp [List.getD, List.getElem?_eq_getElem hi]
    exact (hq _ this).mono (by omega)
  let E : Option W → Option W → Option W → Option W → En := fun a b c d => [some r.w, some (.vl (qs.map Q)), some (.tup (ds.map N)), a, b, c, d]
  have inner : ∀ (I : Itm) (i c : Nat), I.at_ = [] → i < qs.length → c < 2 ^ (n + 1) → ∀ (es : List Nat) (j : Nat) (a b : Option W), j + es.length ≤ qs.length → (∀ e ∈ es, e < 2 ^ (n + 1)) → ∃ a' b', forE G (callK G (k + 4)) (.tp [.nm 5, .nm 6]) [.ife (.and (.eqo true (.var 3) (.var 5)) (.op .gt [.var 4, .con (.int (0))])) [.ife (.call "less" none [.call "times" none [.meth (.var 0) "at" none [.var 6], .op .ix [.var 1, .var 3]], .call "times" none [.meth (.var 0) "at" none [.op .sub [.var 4, .con (.int (1))]], .op .ix [.var 1, .var 5]]]) [.ret (.con (.bl false))] []] []] I (enumW j (es.map N)) (E (some (N i)) (some (N c)) a b) st = if ((es.zipIdx j).any fun q => unj r qs i c q.2 q.1) then .fl (.rt (.bl false)) st else .fl (.nx (E (some (N i)) (some (N c)) a' b')) st := by
    intro I i c hI hi hc es
    induction es with
    | nil => intro j a b _ _; exact ⟨a, b, forE_nil (by simp [Itm.chk, hI])⟩
    | cons e es ih =>
      intro j a b hj he
      simp only [List.length_cons] at hj
      obtain ⟨a', b', ee⟩ := ih (j + 1) (some (N j)) (some (N e)) (by omega) (fun x hx => he x (by simp [hx]))
      refine ⟨a', b', ?_⟩
      have he1 := hat e (he e (by simp))
      rw [List.map_cons, enumW, List.zipIdx_cons, List.any_cons]
      have hput : Tg.put (.tp [.nm 5, .nm 6]) (.tup [.int (j : Int), N e]) (E (some (N i)) (some (N c)) a b) = some (E (some (N i)) (some (N c)) (some (N j)) (some (N e))) := rfl
      by_cases h1 : i ≠ j ∧ 0 < c
      · obtain ⟨hij, hc0⟩ := h1
        have hc1 := hat (c - 1) (by omega)
        have hci : ((c : Int) - 1) = ((c - 1 : Nat) : Int) := by omega
        have hcz : (0 : Int) < (c : Int) := by omega
        have hijz : ¬ ((i : Int) = (j : Int)) := by omega
        have t1 := c_times P (k := k + 1) (st := st) he1.2 (hqs i hi) (by omega)
        have t2 := c_times P (k := k + 1) (st := st) hc1.2 (hqs j (by omega)) (by omega)
        have s1 : Zv.Sz (4 * n + 4) (r.at e * qs.getD i 0) := (he1.2.mul (hqs i hi)).mono (by omega)
        have s2 : Zv.Sz (4 * n + 4) (r.at (c - 1) * qs.getD j 0) := (hc1.2.mul (hqs j (by omega))).mono (by omega)
        have l1 := c_less P (k := k + 3) (st := st) s1 s2 (by omega)
        by_cases hu : r.at e * qs.getD i 0 < r.at (c - 1) * qs.getD j 0
        · have hu' : unj r qs i c j e = true := by
            unfold unj
            rw [decide_eq_true hij, decide_eq_true hc0, decide_eq_true hu]; rfl
          rw [hu', forE_ret (w := .bl false) (st2 := st) (by simp [Itm.chk, hI]) hput]
          · simp
          · rw [decide_eq_true hu] at l1
            simp only [E, q_exs1, q_ife, q_and, q_eqo, q_var, List.getElem?_cons_zero, List.getElem?_cons_succ, q_bindok, eqT_int, if_true, hijz, decide_false, Bool.not_false, q_trut, q_op, q_evs1, q_evs0, q_con, p_gtI, gt_iff_lt, hcz, decide_true, q_ofok, q_truSt, q_call, q_meth, fl_rule, lk_at, Option.isNone_none, P.m_at, he1.1, hc1.1, p_subI, hci, ix_Q hi, ix_Q (show j < qs.length by omega), t1, t2, l1, q_ret, q_nextrt]
        · have hu' : unj r qs i c j e = false := by
            unfold unj
            rw [decide_eq_false hu]; simp
          rw [hu', Bool.false_or, forE_cons (env2 := E (some (N i)) (some (N c)) (some (N j)) (some (N e))) (st2 := st) (by simp [Itm.chk, hI]) hput]
          · exact ee
          · rw [decide_eq_false hu] at l1
            simp only [E, q_exs1, q_exs0, q_ife, q_and, q_eqo, q_var, List.getElem?_cons_zero, List.getElem?_cons_succ, q_bindok, eqT_int, if_true, hijz, decide_false, Bool.not_false, q_trut, q_op, q_evs1, q_evs0, q_con, p_gtI, gt_iff_lt, hcz, decide_true, q_ofok, q_truSt, q_truSf, q_call, q_meth, fl_rule, lk_at, Option.isNone_none, P.m_at, he1.1, hc1.1, p_subI, hci, ix_Q hi, ix_Q (show j < qs.length by omega), t1, t2, l1, q_ret, q_nextnx]
      · have hu' : unj r qs i c j e = false := by
          unfold unj
          by_cases hij : i = j
          · simp [hij]
          · have : ¬ 0 < c := fun z => h1 ⟨hij, z⟩
            simp [this]
        rw [hu', Bool.false_or, forE_cons (env2 := E (some (N i)) (some (N c)) (some (N j)) (some (N e))) (st2 := st) (by simp [Itm.chk, hI]) hput]
        · exact ee
        · by_cases hij : i = j
          · subst hij
            simp [E, eqT_int]
          · have h2 : c = 0 := by
              have : ¬ 0 < c := fun z => h1 ⟨hij, z⟩
              omega
            subst h2
            have hijz : ¬ ((i : Int) = (j : Int)) := by omega
            simp [E, eqT_int, hijz]
  have outer : ∀ (I : Itm), I.at_ = [] → ∀ (es : List Nat) (i : Nat) (a b c d : Option W), i + es.length ≤ qs.length → (∀ e ∈ es, e < 2 ^ (n + 1)) → ∃ a' b' c' d', forE G (callK G (k + 4)) (.tp [.nm 3, .nm 4]) [.forr (.tp [.nm 5, .nm 6]) (.enum (.var 2)) [.ife (.and (.eqo true (.var 3) (.var 5)) (.op .gt [.var 4, .con (.int (0))])) [.ife (.call "less" none [.call "times" none [.meth (.var 0) "at" none [.var 6], .op .ix [.var 1, .var 3]], .call "times" none [.meth (.var 0) "at" none [.op .sub [.var 4, .con (.int (1))]], .op .ix [.var 1, .var 5]]]) [.ret (.con (.bl false))] []] []]] I (enumW i (es.map N)) (E a b c d) st = if ((es.zipIdx i).any fun p => ds.zipIdx.any fun q => unj r qs p.2 p.1 q.2 q.1) then .fl (.rt (.bl false)) st else .fl (.nx (E a' b' c' d')) st := by
    intro I hI es
    induction es with
    | nil => intro i a b c d _ _; exact ⟨a, b, c, d, forE_nil (by simp [Itm.chk, hI])⟩
    | cons e es ih =>
      intro i a b c d hi he
      simp only [List.length_cons] at hi
      obtain ⟨c', d', ei⟩ := inner ⟨enumW 0 (ds.map N), []⟩ i e rfl (by omega) (he e (by simp)) ds 0 c d (by omega) hd
      have hput : Tg.put (.tp [.nm 3, .nm 4]) (.tup [.int (i : Int), N e]) (E a b c d) = some (E (some (N i)) (some (N e)) c d) := rfl
      rw [List.map_cons, enumW, List.zipIdx_cons, List.any_cons]
      obtain ⟨a2, b2, c2, d2, ee⟩ := ih (i + 1) (some (N i)) (some (N e)) c' d' (by omega) (fun x hx => he x (by simp [hx]))
      refine ⟨a2, b2, c2, d2, ?_⟩
      have ef : exs G (callK G (k + 4)) [.forr (.tp [.nm 5, .nm 6]) (.enum (.var 2)) [.ife (.and (.eqo true (.var 3) (.var 5)) (.op .gt [.var 4, .con (.int (0))])) [.ife (.call "less" none [.call "times" none [.meth (.var 0) "at" none [.var 6], .op .ix [.var 1, .var 3]], .call "times" none [.meth (.var 0) "at" none [.op .sub [.var 4, .con (.int (1))]], .op .ix [.var 1, .var 5]]]) [.ret (.con (.bl false))] []] []]] (E (some (N i)) (some (N e)) c d) st = if ((ds.zipIdx 0).any fun q => unj r qs i e q.2 q.1) then .fl (.rt (.bl false)) st else .fl (.nx (E (some (N i)) (some (N e)) c' d')) st := by
        simp only [q_exs1, q_for, q_ienum]
        have : ev G (callK G (k + 4)) (.var 2) (E (some (N i)) (some (N e)) c d) st = .ok (.tup (ds.map N)) st := rfl
        rw [this]
        simp only [q_bindok, enumT, q_ofok]
        rw [ei]
        split <;> rfl
      cases hx : (ds.zipIdx 0).any fun q => unj r qs i e q.2 q.1 with
      | true =>
        rw [hx] at ef
        rw [forE_ret (w := .bl false) (st2 := st) (by simp [Itm.chk, hI]) hput ef]
        simp
      | false =>
        rw [hx] at ef
        rw [forE_cons (st2 := st) (by simp [Itm.chk, hI]) hput ef, ee]
        rw [Bool.false_or]
  obtain ⟨a', b', c', d', L⟩ := outer ⟨enumW 0 (ds.map N), []⟩ rfl ds 0 none none none none (by omega) hd
  simp only [F_is_just, q_exs1, q_for, q_ienum, q_var, start_, List.map_cons, List.map_nil, List.length_cons, List.length_nil, Nat.reduceAdd, Nat.reduceSub, List.replicate, List.cons_append, List.nil_append, List.getElem?_cons_zero, List.getElem?_cons_succ, q_bindok, enumT, q_ofok]
  rw [show forE G (callK G (k + 4)) _ _ _ _ _ st = _ from L]
  unfold justM
  cases hx : (ds.zipIdx 0).any fun p => ds.zipIdx.any fun q => unj r qs p.2 p.1 q.2 q.1 with
  | true =>
    simp
    rw [gc_ok0 rfl]
  | false =>
    simp
    rw [gc_ok0 rfl]
theorem c_isfair {cs : List (W × Rat)} {ds : List Nat} (hr : r.Sz n) (hc : Clm cs n) (hd : ∀ d ∈ ds, d < 2 ^ (n + 1)) (hl : ds.length = cs.length) (hn : n < 1300) :
    callK G (k + 6) "is_fair" [r.w, .tup (cs.map (·.1)), .tup (ds.map N)] st = .ok (.bl (justM r (cs.map (·.2)) ds)) st := by
  rw [call_fn P.f_is_fair rfl rfl, P.k_is_fair]
  have e1 := c_checkclaims P (k := k) (st := st) hc
  have h6 := hc.six
  have e2 := c_checkdiv P (k := k + 2) (st := st) (ds := ds) (by omega)
  rw [hl] at e2
  have e3 := c_exactclaims P (k := k + 1) (st := st) hc
  have e3' : (cs.map fun c => Q c.2) = (cs.map (·.2)).map Q := by rw [List.map_map]; rfl
  rw [e3'] at e3
  have e4 := c_just P (k := k) (st := st) (r := r) (qs := cs.map (·.2)) (ds := ds) hr (fun q hq => by
    obtain ⟨c, hc', rfl⟩ := List.mem_map.mp hq
    exact hc.sz c hc') hd (by simpa using hl) hn
  simp only [F_is_fair, q_exs1, q_exp, q_call, q_evs1, q_var, start_, List.map_cons, List.map_nil, List.length_cons, List.length_nil, Nat.reduceAdd, Nat.reduceSub, List.replicate, List.cons_append, List.nil_append, List.append_nil, Nat.sub_self, List.getElem?_cons_zero, List.getElem?_cons_succ, q_bindok, q_evs0, c_checkrule P, e1, q_op, p_lenT, List.length_map, e2, e3, e4, q_ofok, q_nextnx, q_ret, q_nextrt, q_finrt]
  rw [gc_ok0 rfl]
theorem c_next {cs : List (W × Rat)} {ds : List Nat} (hr : r.Sz n) (hc : Clm cs n) (hd : ∀ d ∈ ds, d < 2 ^ (n + 1)) (hl : ds.length = cs.length) (hn : n < 1300) (hj : justM r (cs.map (·.2)) ds = true) :
    callK G (k + 6) "next_claimants" [r.w, .tup (cs.map (·.1)), .tup (ds.map N)] st = .ok (.tup ((cheap r (cs.map (·.2)) ds).map N)) st := by
  rw [call_fn P.f_next_claimants rfl rfl, P.k_next_claimants]
  have e1 := c_checkclaims P (k := k) (st := st) hc
  have h6 := hc.six
  have e2 := c_checkdiv P (k := k + 2) (st := st) (ds := ds) (by omega)
  rw [hl] at e2
  have e3 := c_exactclaims P (k := k + 1) (st := st) hc
  have e3' : (cs.map fun c => Q c.2) = (cs.map (·.2)).map Q := by rw [List.map_map]; rfl
  rw [e3'] at e3
  have hq : ∀ q ∈ cs.map (·.2), Zv.Sz n q ∧ 0 < q := fun q hq => by
    obtain ⟨c, hc', rfl⟩ := List.mem_map.mp hq
    exact ⟨hc.sz c hc', hc.pos c hc'⟩
  have e4 := c_just P (k := k) (st := st) (r := r) (qs := cs.map (·.2)) (ds := ds) hr (fun q hq' => (hq q hq').1) hd (by simpa using hl) hn
  rw [hj] at e4
  have e5 := c_cheapest P (k := k) (st := st) (w := .tup (ds.map N)) (r := r) (qs := cs.map (·.2)) (cs := ds) ⟨rfl, rfl⟩ hr hq hd (by simpa using hl) (by simpa using hc.one) (by simp; omega) hn
  simp only [F_next_claimants, q_exs1, q_exs0, q_exp, q_call, q_evs1, q_var, start_, List.map_cons, List.map_nil, List.length_cons, List.length_nil, Nat.reduceAdd, Nat.reduceSub, List.replicate, List.cons_append, List.nil_append, List.append_nil, Nat.sub_self, List.getElem?_cons_zero, List.getElem?_cons_succ, List.set_cons_succ, List.set_cons_zero, q_bindok, q_evs0, c_checkrule P, e1, q_op, p_lenT, List.length_map, e2, e3, e4, e5, q_ofok, q_nextnx, q_set, q_ife, q_not, q_trut, q_truSf, q_ret, p_tupleL, q_nextrt, q_finrt]
  rw [gc_ok0 (by simp only [rlt_tup]; exact rlts_map (fun _ => rfl) _)]
end
end Zv

set_option maxRecDepth 100000
set_option maxHeartbeats 4000000
/-! Ct10: contracts: texts of numbers, rules made. -/
namespace Zv
open PySem
def tI (i : Int) : Str := Str.ofString (toString i)
theorem tI_len {i : Nat} {n : Nat} (hn : 0 < n) (h : i < 2 ^ n) : (tI i).length ≤ n := by
  unfold tI
  rw [Str.ofString_eq_toList]
  show ((toString (i : Int)).toList.map Char.toNat).toArray.size ≤ n
  simp only [List.size_toArray, List.length_map]
  have e : toString (i : Int) = Nat.repr i := rfl
  rw [e]
  have := PySem.nat_repr_length_le hn h
  rw [String.length_toList]
  exact this
theorem empty_app (x : Str) : (Str.ofString "" ++ x : Str) = x := by
  have : Str.ofString "" = ⟨#[]⟩ := by decide +kernel
  rw [this]
  show Str.append _ _ = _
  unfold Str.append
  simp
section
variable {G : Prg} (P : Pg G) {st : Sto} {n k : Nat}
include P
theorem c_digits {i : Nat} (h : i < 10 ^ 18) : callK G (k + 1) "digits_of" [.int i] st = .ok (.str (tI i)) st := by
  rw [call_fn P.f_digits_of rfl rfl, P.k_digits_of]
  have hl : (tI i).length ≤ 60 := tI_len (by decide) (Nat.lt_trans h (by decide))
  have hlog : ((i : Int).natAbs).log2 < 1920 := by
    have := log2_lt_of (n := 60) (Nat.lt_trans h (by decide : 10 ^ 18 < 2 ^ 60))
    simp; omega
  have h1 : ¬ ((i : Int) ≥ 10 ^ 18) := by omega
  have h2 : ¬ ((i : Int) < 0) := by omega
  have hw : ∀ F c (env : En) (S : Sto), env[2]? = some (some (.int (i : Int))) → whE G c (.op .ge [.var 2, .glo "WIDE"]) [.set 3 (.op .fmt [.op .mod [.op .int [.var 2], .glo "WIDE"]]), .exp (.bm .append (.var 1) [.op .add [.op .mul [.con (.str "0"), .op .sub [.glo "WIDE_DIGITS", .op .len [.var 3]]], .var 3]]), .set 2 (.op .fdiv [.var 2, .glo "WIDE"])] (F + 1) env S = .fl (.nx env) S := fun F c env S h => by
    refine whE_stop ?_
    simp only [q_op, q_evs1, q_evs0, q_var, h, q_bindok, q_glo, P.c_WIDE, p_geI, h1, decide_false]
  have hfu : (2 : Nat) ^ 7900 = (2 ^ 7900 - 1) + 1 := by
    have : 0 < (2 : Nat) ^ 7900 := Nat.two_pow_pos _
    omega
  have hfmt : ∀ S : Sto, prim .fmt [.int (i : Int)] S = .ok (.str (tI i)) S := fun S => by
    rw [p_fmt]
    simp only [pFmt, hlog, if_true]
    rfl
  simp only [F_digits_of, q_exs1, q_unp, q_op, q_evs1, q_evs0, q_var, start_, List.map_cons, List.map_nil, List.length_cons, List.length_nil, Nat.reduceAdd, Nat.reduceSub, List.replicate, List.cons_append, List.nil_append, List.getElem?_cons_zero, List.getElem?_cons_succ, p_lst, szL, Nat.zero_le, if_true, mkLt, q_bindok, p_abs, h2, if_false, p_tup, Nat.reduceLeDiff, q_ofok, put_tp, puts1, puts0, put_nm, List.set_cons_succ, List.set_cons_zero, q_nextnx, q_whl, P.fuel]
  rw [hfu, hw _ _ _ _ rfl]
  have happ : prim .append [.ref st.length, .str (tI i)] (st ++ [.lst []]) = .ok .non (st ++ [.lst [.str (tI i)]]) := by
    rw [p_append]
    simp [pAppend, szL]
  simp only [q_nextnx, q_exp, q_bm, q_var, List.getElem?_cons_zero, List.getElem?_cons_succ, q_bindok, recvOk, List.getElem?_append_right (Nat.le_refl st.length), Nat.sub_self, if_true, q_evs1, q_evs0, q_op, hfmt, happ, q_ofok, q_ret, q_ite, q_con, p_ltI, h2, decide_false, q_truf]
  have hrev : prim .rev [.ref st.length] (st ++ [.lst [.str (tI i)]]) = .ok (.vl [.str (tI i)]) (st ++ [.lst [.str (tI i)]]) := by
    rw [p_rev]
    simp [pRev, items]
  have hjoin : ∀ S : Sto, prim .join [.str "", .vl [.str (tI i)]] S = .ok (.str (tI i)) S := fun S => by
    rw [p_join]
    have e1 : Txt.join (Str.ofString "") [tI i] = tI i := rfl
    have e2 : (Str.ofString "").length = 0 := by decide +kernel
    simp [pJoin, items, allSome, W.str?, e1, e2, szL]
    omega
  have hadd : ∀ S : Sto, prim .add [.str "", .str (tI i)] S = .ok (.str (tI i)) S := fun S => by
    rw [p_add]
    have e2 : (Str.ofString "").length = 0 := by decide +kernel
    have e3 : 0 + (tI (i : Int)).length ≤ szL := by simp only [szL]; omega
    simp only [pAdd, e2, empty_app, e3, if_true]
  simp only [hrev, q_bindok, hjoin, hadd, q_ofok, q_nextrt, q_finrt]
  rw [gc_ok (by rfl)]
/-- the text of a number that is not negative -/
def tQ (q : Rat) : Str := if q.den = 1 then tI q.num else ((Str.empty ++ tI q.num) ++ Str.ofString "/") ++ tI q.den
theorem c_text {q : Rat} (h0 : 0 ≤ q) (h1 : q.num.natAbs < 10 ^ 18) (h2 : q.den < 10 ^ 18) : callK G (k + 2) "exact_text" [Q q] st = .ok (.str (tQ q)) st := by
  rw [call_fn P.f_exact_text rfl rfl, P.k_exact_text]
  have hn : 0 ≤ q.num := Rat.num_nonneg.mpr h0
  obtain ⟨m, hm⟩ : ∃ m : Nat, q.num = (m : Int) := ⟨q.num.toNat, by omega⟩
  have c1 := c_digits P (k := k) (st := st) (i := m) (by omega)
  have c2 := c_digits P (k := k) (st := st) (i := q.den) h2
  have l1 : (tI (m : Int)).length ≤ 60 := tI_len (by decide) (Nat.lt_trans (show m < 10 ^ 18 by omega) (by decide))
  have l2 : (tI (q.den : Int)).length ≤ 60 := tI_len (by decide) (Nat.lt_trans h2 (by decide))
  unfold tQ
  rw [hm]
  by_cases hd : q.den = 1
  · rw [if_pos hd]
    simp [F_exact_text, eqT_int, hd, hm, c1]
    rw [gc_ok0 rfl]
  · rw [if_neg hd]
    have hd' : ¬ ((q.den : Int) = 1) := by omega
    have hf : ∀ (x : Str) (S : Sto), x.length ≤ 60 → prim .fmt [.str x] S = .ok (.str x) S := fun x S hx => by
      rw [p_fmt]
      have hx2 : x.length ≤ szL := by simp only [szL]; omega
      simp only [pFmt, hx2, if_true]
    have al : ∀ a b : Str, (a ++ b).length = a.length + b.length := fun a b => by
      show (Str.append a b).cps.size = _
      simp [Str.append, Str.length]
    have e0 : Str.empty.length = 0 := rfl
    have e1 : (Str.ofString "/").length = 1 := by decide +kernel
    have b1 : (Str.empty ++ tI (m : Int)).length ≤ szL := by rw [al, e0]; simp only [szL]; omega
    have b2 : ((Str.empty ++ tI (m : Int)) ++ Str.ofString "/").length ≤ szL := by rw [al, al, e0, e1]; simp only [szL]; omega
    have b3 : (((Str.empty ++ tI (m : Int)) ++ Str.ofString "/") ++ tI (q.den : Int)).length ≤ szL := by rw [al, al, al, e0, e1]; simp only [szL]; omega
    simp only [F_exact_text, q_exs1, q_ret, q_ite, q_eqo, q_op, q_evs1, q_evs0, q_var, q_con, start_, List.map_cons, List.map_nil, List.length_cons, List.length_nil, Nat.reduceAdd, Nat.reduceSub, List.replicate, List.cons_append, List.nil_append, List.append_nil, Nat.sub_self, List.getElem?_cons_zero, q_bindok, p_ixT, at0, at1, eqT_int, Bool.false_eq_true, if_false, hd', decide_false, q_truf, q_fstr, q_evJ1, q_evJ0, q_call, hm, c1, c2, hf _ _ l1, hf _ _ l2, b1, b2, b3, if_true, q_ofok, q_nextrt, q_finrt]
    rw [gc_ok0 rfl]
end
end Zv

set_option maxRecDepth 100000
set_option maxHeartbeats 4000000
/-! CtT: the source of draws of a law. -/
namespace Zv
open PySem
def F_tank : FnC := { np := 2, star := false, ns := 5, body := [.set 2 (.op .addm [.con (.int (40427)), .op .mul [.con (.int (2203)), .var 1]]), .forr (.nm 3) (.seq (.op (.slc false true) [.var 0, .con (.int (11))])) [.set 2 (.op .mod [.op .int [.op .addm [.op .mul [.var 2, .con (.int (52189))], .op .mod [.op .int [.var 3], .con (.int (1610612741))]]], .con (.int (1610612741))])], .set 4 (.ite (.op .lt [.var 1, .op .len [.var 0]]) (.op .int [.op .ix [.var 0, .var 1]]) (.op .addm [.op .mul [.con (.int (5)), .var 1], .con (.int (1))])), .ret (.op (.lst true) [.ite (.or (.op .lt [.var 4, .con (.int (0))]) (.op .ge [.var 4, .op .pow [.con (.int (10)), .con (.int (17))]])) (.op .abs [.var 4]) (.con (.int (0))), .op .mod [.op .int [.op .addm [.var 2, .op .mod [.var 4, .con (.int (1610612741))]]], .con (.int (1610612741))], .con (.int (0))])] }
def F_tap : FnC := { np := 2, star := false, ns := 3, body := [.ife (.op .gt [.op .ix [.var 0, .con (.int (0))], .con (.int (0))]) [.unpS (.var 0) (.con (.int (0))) 2 (.op .divmod [.op .int [.op .ix [.var 0, .con (.int (0))]], .var 1]), .ret (.var 2)] [], .sub (.var 0) (.con (.int (2))) (.op .add [.op .ix [.var 0, .con (.int (2))], .con (.int (1))]), .sub (.var 0) (.con (.int (1))) (.op .mod [.op .int [.op .add [.op .add [.op .mul [.op .ix [.var 0, .con (.int (1))], .con (.int (22277))], .op .mul [.op .fdiv [.op .ix [.var 0, .con (.int (1))], .con (.int (6151))], .con (.int (89))]], .op .mul [.con (.int (70001)), .op .ix [.var 0, .con (.int (2))]]]], .con (.int (1610612741))]), .ret (.op .mod [.op .int [.op .fdiv [.op .ix [.var 0, .con (.int (1))], .con (.int (389))]], .var 1])] }
@[simp] theorem p_addmI {a b : Int} {st : Sto} : prim .addm [.int a, .int b] st = .ok (.int (a + b)) st := rfl
structure PgT (G : Prg) : Prop where
  f_tank : G.fn "_law_tank" = some F_tank
  f_tap : G.fn "_law_tap" = some F_tap
  k_tank : G.keep "_law_tank" = true
  k_tap : G.keep "_law_tap" = false
def Tk (tk : List W) (d : Nat) : Prop := ∃ a b c : Nat, tk = [.int a, .int b, .int c] ∧ b < 2 ^ 31 ∧ c ≤ d
theorem gcOk_set {n : Nat} {o : Ob} (ho : o.rlt n = true) : ∀ (st : Sto) (i : Nat), gcOk n st (st.set i o) = true
  | [], _ => rfl
  | p :: r, 0 => by simp [gcOk, ho, gcOk_refl]
  | p :: r, i + 1 => by simp [gcOk, Ob.beq_refl, gcOk_set ho r i]
theorem gc_set {b : Bool} {st : Sto} {i : Nat} {o : Ob} {w : W} (ho : o.rlt st.length = true) (h : w.rlt st.length = true) : gcR b st (.ok w (st.set i o)) = .ok w (st.set i o) := by
  have e : (st.set i o).take st.length = st.set i o := List.take_of_length_le (by simp)
  simp only [gcR, gcOk_set ho, if_true, e]
  cases b with
  | true => simp [h]
  | false => simp [frz_pur h]
section
variable {G : Prg} (T : PgT G) {st : Sto} {k : Nat}
include T
theorem c_tap {i d : Nat} {tk : List W} {many : Nat} (hi : st[i]? = some (.lst tk)) (ht : Tk tk d) (hd : d < 2 ^ 64) (hm : 0 < many) (hm2 : many < 2 ^ 7000) :
    ∃ (r : Nat) (tk' : List W), r < many ∧ Tk tk' (d + 1) ∧ callK G (k + 1) "_law_tap" [.ref i, .int many] st = .ok (.int r) (st.set i (.lst tk')) := by
  obtain ⟨a, b, c, rfl, hb, hc⟩ := ht
  have hdiv : divOk (many : Int) = true := div_ok (n := 7000) (by omega) (by simpa using hm2) (by omega)
  have hil : i < st.length := (List.getElem?_eq_some_iff.mp hi).1
  rw [call_fn T.f_tap rfl rfl, T.k_tap]
  have ixr : ∀ (S : Sto) (xs : List W) (j : Int), S[i]? = some (.lst xs) → prim .ix [.ref i, .int j] S = (match L2.atI xs j with
      | some w => .ok w S
      | none => .stuck) := fun S xs j h => by
    show pIx (.ref i) (.int j) S = _
    simp only [pIx, items, h] <;> rfl
  have i0 : L2.ixN 3 0 = some 0 := rfl
  have i1 : L2.ixN 3 1 = some 1 := rfl
  have i2 : L2.ixN 3 2 = some 2 := rfl
  by_cases ha : 0 < a
  · refine ⟨a % many, [.int ((a / many : Nat) : Int), .int b, .int c], Nat.mod_lt _ hm, ⟨_, _, _, rfl, hb, by omega⟩, ?_⟩
    simp [F_tap, ixr _ _ _ hi, ha, hdiv, hi, i0]
    rw [gc_set rfl rfl]
  · have ha0 : a = 0 := by omega
    subst ha0
    have hi : st[i]? = some (.lst [.int 0, .int b, .int c]) := hi
    let S1 := st.set i (.lst [.int 0, .int b, .int ((c : Int) + 1)])
    have h1 : S1[i]? = some (.lst [.int 0, .int b, .int ((c : Int) + 1)]) := List.getElem?_set_self hil
    let nb : Nat := (b * 22277 + b / 6151 * 89 + 70001 * (c + 1)) % 1610612741
    have hnb : (((b : Int) * 22277 + (b : Int) / 6151 * 89 + 70001 * ((c : Int) + 1)) % 1610612741) = (nb : Int) := by
      show _ = (((b * 22277 + b / 6151 * 89 + 70001 * (c + 1)) % 1610612741 : Nat) : Int)
      omega
    have hnbl : nb < 2 ^ 31 := Nat.lt_of_lt_of_le (Nat.mod_lt _ (by decide)) (by decide)
    refine ⟨nb / 389 % many, [.int 0, .int nb, .int ((c + 1 : Nat) : Int)], Nat.mod_lt _ hm, ⟨0, nb, c + 1, rfl, hnbl, by omega⟩, ?_⟩
    have m1 : mulOk (b : Int) 22277 = true := mul_ok (n := 31) (m := 31) (by simpa using hb) (by decide) (by omega)
    have m2 : mulOk ((b : Int) / 6151) 89 = true := mul_ok (n := 31) (m := 31) (by
      have : ((b : Int) / 6151).natAbs ≤ b := by omega
      omega) (by decide) (by omega)
    have m3 : mulOk 70001 ((c : Int) + 1) = true := mul_ok (n := 31) (m := 65) (by decide) (by omega) (by omega)
    have d1 : divOk 6151 = true := by decide
    have d2 : divOk 389 = true := by decide
    have e2 : S1.set i (.lst [.int 0, .int (nb : Int), .int ((c : Int) + 1)]) = st.set i (.lst [.int 0, .int (nb : Int), .int ((c : Int) + 1)]) := List.set_set _
    have h2 : (st.set i (.lst [.int 0, .int (nb : Int), .int ((c : Int) + 1)]))[i]? = some (.lst [.int 0, .int (nb : Int), .int ((c : Int) + 1)]) := List.getElem?_set_self hil
    simp only [F_tap, q_exs1, q_exs0, q_ife, q_op, q_evs1, q_evs0, q_var, q_con, start_, List.map_cons, List.map_nil, List.length_cons, List.length_nil, Nat.reduceAdd, Nat.reduceSub, List.replicate, List.cons_append, List.nil_append, List.getElem?_cons_zero, List.getElem?_cons_succ, q_bindok, ixr _ _ _ hi, at0, at1, at2, p_gtI, gt_iff_lt, Int.lt_irrefl, decide_false, q_ofok, q_truSf, q_nextnx, q_sub, p_addI, hi, i2, List.set_cons_succ, List.set_cons_zero]
    simp only [show st.set i (.lst [.int 0, .int b, .int ((c : Int) + 1)]) = S1 from rfl, ixr _ _ _ h1, at0, at1, at2, q_bindok, p_mulI, m1, if_true, p_fdivI, d1, m2, p_addI, m3, p_int, p_modI, decide_eq_true (show (0 : Int) < 1610612741 by decide), hnb, q_ofok, h1, List.length_cons, List.length_nil, Nat.reduceAdd, i1, List.set_cons_succ, List.set_cons_zero, e2, q_nextnx, q_ret, q_op, q_evs1, q_evs0, q_var, q_con, List.getElem?_cons_zero, List.getElem?_cons_succ, ixr _ _ _ h2, d2, decide_eq_true (show (0 : Int) < (many : Int) by omega), q_nextrt, q_finrt]
    rw [gc_set rfl rfl]
    simp
/-- the script -/
def ScrW (w : W) (ns : List Int) : Prop := w = .vl (ns.map W.int) ∨ w = .fzl (ns.map W.int)
theorem c_tank {w : W} {ns : List Int} {j : Nat} (hw : ScrW w ns) (hj : j < 1000) :
    ∃ tk : List W, Tk tk 0 ∧ callK G (k + 1) "_law_tank" [w, .int j] st = .ok (.ref st.length) (st ++ [.lst tk]) := by
  have hw2 : (∀ (S : Sto) (i : Int), prim (.slc false true) [w, .int i] S = .ok (.vl (cutW (ns.map W.int) none (some i))) S) ∧ (∀ (S : Sto) (i : Int), prim .ix [w, .int i] S = match L2.atI (ns.map W.int) i with
      | some w => .ok w S
      | none => .stuck) ∧ (∀ S : Sto, prim .len [w] S = .ok (.int ns.length) S) := by
    rcases hw with rfl | rfl
    · exact ⟨fun _ _ => rfl, fun _ _ => rfl, fun S => by simp⟩
    · exact ⟨fun _ _ => rfl, fun _ _ => rfl, fun S => by simp⟩
  obtain ⟨w1, w2, w3⟩ := hw2
  rw [call_fn T.f_tank rfl rfl, T.k_tank]
  obtain ⟨ms, hms⟩ : ∃ ms : List Int, cutW (ns.map W.int) none (some 11) = ms.map W.int := by
    refine ⟨(ns.drop (HT.sIx (ns.map W.int).length 0 none)).take (HT.sIx (ns.map W.int).length (ns.map W.int).length (some 11) - HT.sIx (ns.map W.int).length 0 none), ?_⟩
    unfold cutW
    rw [List.map_take, List.map_drop]
  have hmul : mulOk 2203 (j : Int) = true := mul_ok (n := 31) (m := 31) (by decide) (by simp; omega) (by omega)
  have hmul5 : mulOk 5 (j : Int) = true := mul_ok (n := 31) (m := 31) (by decide) (by simp; omega) (by omega)
  have key : ∀ (I : Itm) (rs : List Int) (m : Nat) (o : Option W), I.at_ = [] → m < 2 ^ 31 → ∃ (m' : Nat) (o' : Option W), m' < 2 ^ 31 ∧ forE G (callK G k) (.nm 3) [.set 2 (.op .mod [.op .int [.op .addm [.op .mul [.var 2, .con (.int (52189))], .op .mod [.op .int [.var 3], .con (.int (1610612741))]]], .con (.int (1610612741))])] I (rs.map W.int) [some w, some (.int j), some (.int m), o, none] st = .fl (.nx [some w, some (.int j), some (.int m'), o', none]) st := by
    intro I rs
    induction rs with
    | nil => intro m o hI hm; exact ⟨m, o, hm, forE_nil (by simp [Itm.chk, hI])⟩
    | cons r rs ih =>
      intro m o hI hm
      have hmm : mulOk (m : Int) 52189 = true := mul_ok (n := 31) (m := 31) (by simpa using hm) (by decide) (by omega)
      have hx : 0 ≤ ((m : Int) * 52189 + r % 1610612741) % 1610612741 := by omega
      obtain ⟨m2, hm2⟩ : ∃ m2 : Nat, ((m : Int) * 52189 + r % 1610612741) % 1610612741 = (m2 : Int) := ⟨_, (Int.toNat_of_nonneg hx).symm⟩
      have hm2l : m2 < 2 ^ 31 := by omega
      obtain ⟨m', o', hm', e⟩ := ih m2 (some (.int r)) hI hm2l
      refine ⟨m', o', hm', ?_⟩
      rw [List.map_cons, forE_cons (env2 := [some w, some (.int j), some (.int m2), some (.int r), none]) (st2 := st) (by simp [Itm.chk, hI]) rfl]
      · exact e
      · simp [hmm, hm2, p_addmI]
  obtain ⟨m', o', hm', e⟩ := key ⟨ms.map W.int, []⟩ ms (40427 + 2203 * j) none rfl (by omega)
  have e0 : ((40427 + 2203 * j : Nat) : Int) = 40427 + 2203 * (j : Int) := by omega
  rw [e0] at e
  -- the entry itself
  obtain ⟨own, hown⟩ : ∃ own : Int, ∀ env : En, env[0]? = some (some w) → env[1]? = some (some (.int j)) → ev G (callK G k) (.ite (.op .lt [.var 1, .op .len [.var 0]]) (.op .int [.op .ix [.var 0, .var 1]]) (.op .addm [.op .mul [.con (.int (5)), .var 1], .con (.int (1))])) env st = .ok (.int own) st := by
    by_cases hl : j < ns.length
    · refine ⟨ns[j], fun env h0 h1 => ?_⟩
      have : L2.atI (ns.map W.int) (j : Int) = some (.int ns[j]) := by
        rw [at_nat (by simpa using hl), List.getElem?_map, List.getElem?_eq_getElem hl]; rfl
      have hl' : ((j : Int) < (ns.length : Int)) := by omega
      simp only [q_ite, q_op, q_evs1, q_evs0, q_var, h0, h1, q_bindok, w3, p_ltI, hl', decide_true, q_trut, w2, this, p_int]
    · refine ⟨5 * j + 1, fun env h0 h1 => ?_⟩
      have hl' : ¬ ((j : Int) < (ns.length : Int)) := by omega
      simp only [q_ite, q_op, q_evs1, q_evs0, q_var, h0, h1, q_bindok, w3, p_ltI, hl', decide_false, q_truf, q_con, p_mulI, hmul5, if_true, p_addI, p_addmI]
  have hpow : ∀ S : Sto, prim .pow [.int 10, .int 17] S = .ok (.int (10 ^ 17)) S := fun S => by
    rw [p_powI]
    rfl
  obtain ⟨a, ha⟩ : ∃ a : Nat, ∀ env : En, env[4]? = some (some (.int own)) → ev G (callK G k) (.ite (.or (.op .lt [.var 4, .con (.int (0))]) (.op .ge [.var 4, .op .pow [.con (.int (10)), .con (.int (17))]])) (.op .abs [.var 4]) (.con (.int (0)))) env st = .ok (.int a) st := by
    by_cases h1 : own < 0
    · refine ⟨own.natAbs, fun env h4 => ?_⟩
      have : -own = (own.natAbs : Int) := by omega
      simp only [q_ite, q_or, q_op, q_evs1, q_evs0, q_var, h4, q_bindok, q_con, p_ltI, h1, decide_true, q_trut, p_abs, if_true]
      rw [this]
    · by_cases h2 : own ≥ 10 ^ 17
      · refine ⟨own.natAbs, fun env h4 => ?_⟩
        have : own = (own.natAbs : Int) := by omega
        simp only [q_ite, q_or, q_op, q_evs1, q_evs0, q_var, h4, q_bindok, q_con, p_ltI, h1, decide_false, q_truf, hpow, p_geI, h2, decide_true, q_trut, p_abs, if_false]
        rw [← this]
      · refine ⟨0, fun env h4 => ?_⟩
        simp only [q_ite, q_or, q_op, q_evs1, q_evs0, q_var, h4, q_bindok, q_con, p_ltI, h1, decide_false, q_truf, hpow, p_geI, h2]
        rfl
  have hx : 0 ≤ ((m' : Int) + own % 1610612741) % 1610612741 := by omega
  obtain ⟨b, hb⟩ : ∃ b : Nat, ((m' : Int) + own % 1610612741) % 1610612741 = (b : Int) := ⟨_, (Int.toNat_of_nonneg hx).symm⟩
  have hbl : b < 2 ^ 31 := by omega
  refine ⟨[.int a, .int b, .int 0], ⟨a, b, 0, rfl, hbl, Nat.le_refl _⟩, ?_⟩
  simp only [F_tank, q_exs1, q_set, q_op, q_evs1, q_evs0, q_var, q_con, start_, List.map_cons, List.map_nil, List.length_cons, List.length_nil, Nat.reduceAdd, Nat.reduceSub, List.replicate, List.cons_append, List.nil_append, List.getElem?_cons_zero, List.getElem?_cons_succ, q_bindok, p_mulI, hmul, if_true, p_addI, p_addmI, q_ofok, List.set_cons_succ, List.set_cons_zero, q_nextnx, q_for, q_iseq, w1, hms, seqL, e]
  rw [hown _ rfl rfl]
  simp only [q_ofok, List.set_cons_succ, List.set_cons_zero, q_nextnx, q_ret, q_op, q_evs1, q_evs0]
  rw [ha _ rfl]
  simp only [q_bindok, q_op, q_evs1, q_evs0, q_var, q_con, List.getElem?_cons_zero, List.getElem?_cons_succ, p_modI, decide_eq_true (show (0 : Int) < 1610612741 by decide), if_true, p_addI, p_addmI, p_int, hb, p_lst, List.length_cons, List.length_nil, Nat.reduceAdd, szL, Nat.reduceLeDiff, mkLt, q_ofok, q_nextrt, q_finrt]
  simp only [gcR, gcOk_app, if_true]
  have : W.rlt st.length (.ref st.length) = false := by simp [W.rlt]
  rw [this]
  rfl
omit T in
theorem lcE_mapg {cl : Cl} {t : Tg} {env : En} {e : Ex} {I : Itm} {cs : List Ex} {α : Type} {g h : α → W} (hI : I.chk st = true) (xs : List α) (acc : List W) (hx : ∀ x ∈ xs, ∃ env1, Tg.put t (g x) env = some env1 ∧ evC G cl cs env1 st = .ok true st ∧ gcR true st (ev G cl e env1 st) = .ok (h x) st) : lcE G cl t env cs e I (xs.map g) acc st = .ok (acc ++ xs.map h) st := by
  rw [lcE, lc_map (h := fun x => some (h x)) hI xs acc fun x m => ?_, List.filterMap_eq_map']
  · obtain ⟨env1, e1, e2, e3⟩ := hx x m
    simp only [lcBody, e1, e2, e3, R.bind, if_true]
def F_law (c : Int) : FnC := { np := 1, star := false, ns := 2, body := [.ret (.op .all [.lc false (.nm 1) [1] (.rng1 (.op .max2 [.con (.int (2)), .op .min2 [.op .len [.var 0], .con (.int c)]])) [] (.call "_law_right" none [.call "_law_tank" none [.var 0, .var 1]])])] }
omit T in
theorem all_true : ∀ n : Nat, allSome W.bl? (List.replicate n (.bl true)) = some (List.replicate n true)
  | 0 => rfl
  | n + 1 => by
    rw [List.replicate_succ, List.replicate_succ, allSome, all_true n]
    rfl
theorem c_law {c : Nat} (f_law : G.fn "law" = some (F_law c)) (hc : c ≤ 100) (hc2 : 2 ≤ c) (right : ∀ tk, Tk tk 0 → ∃ st', callK G (k + 1) "_law_right" [.ref 0] [.lst tk] = .ok (.bl true) st') :
    ∀ (ns : List Int), ∀ (w : W), (w = .vl (ns.map W.int) ∨ w = .fzl (ns.map W.int)) → ∃ st', callK G (k + 2) "law" [w] [] = .ok (.bl true) st' := by
  intro ns w hw
  rw [call_fn f_law rfl rfl]
  have w3 : ∀ S : Sto, prim .len [w] S = .ok (.int ns.length) S := by
    rcases hw with rfl | rfl
    · exact fun S => by simp
    · exact fun S => by simp
  obtain ⟨n, hn, hn2⟩ : ∃ n : Nat, (if (if (c : Int) < (ns.length : Int) then (c : Int) else (ns.length : Int)) > 2 then (if (c : Int) < (ns.length : Int) then (c : Int) else (ns.length : Int)) else 2) = (n : Int) ∧ n ≤ 100 := by
    by_cases h1 : (c : Int) < (ns.length : Int)
    · by_cases h2 : (c : Int) > 2
      · exact ⟨c, by rw [if_pos h1, if_pos h2], hc⟩
      · exact ⟨2, by rw [if_pos h1, if_neg h2]; rfl, by omega⟩
    · by_cases h2 : (ns.length : Int) > 2
      · exact ⟨ns.length, by rw [if_neg h1, if_pos h2], by omega⟩
      · exact ⟨2, by rw [if_neg h1, if_neg h2]; rfl, by omega⟩
  have e : lcE G (callK G (k + 1)) (.nm 1) [some w, none] [] (.call "_law_right" none [.call "_law_tank" none [.var 0, .var 1]]) ⟨rngW 0 n, []⟩ (rngW 0 n) [] [] = .ok ([] ++ (List.range n).map fun _ => .bl true) [] := by
    refine lcE_mapg rfl (List.range n) [] fun j hj => ⟨[some w, some (.int (0 + (j : Int)))], rfl, rfl, ?_⟩
    have hj : j < n := List.mem_range.mp hj
    obtain ⟨tk, ht, et⟩ := c_tank T (k := k) (st := []) (w := w) (ns := ns) (j := j) hw (by omega)
    obtain ⟨st', er⟩ := right tk ht
    have h0 : (0 : Int) + (j : Int) = j := by omega
    have er' : callK G (k + 1) "_law_right" [.ref ([] : Sto).length] ([] ++ [.lst tk]) = .ok (.bl true) st' := er
    simp only [q_call, q_evs1, q_evs0, q_var, List.getElem?_cons_zero, List.getElem?_cons_succ, q_bindok, h0, et, er']
    simp [gcR, gcOk, W.rlt]
  have hl : inL (n : Int) = true := by
    unfold inL
    exact decide_eq_true (by omega)
  have hr : (rngW 0 n).length ≤ szL := by simp [rngW, szL]; omega
  have ei : evI G (callK G (k + 1)) (.rng1 (.op .max2 [.con (.int (2)), .op .min2 [.op .len [.var 0], .con (.int c)]])) [some w, none] [] = .ok ⟨rngW 0 n, []⟩ [] := by
    simp only [q_irng1, q_op, q_evs1, q_evs0, q_con, q_var, List.getElem?_cons_zero, q_bindok, w3, p_min, p_max]
    rw [hn]
    unfold rngItm1
    simp only [hl, if_true, Int.toNat_natCast]
  have ea : prim .all [.vl (([] : List W) ++ (List.range n).map fun _ => .bl true)] [] = .ok (.bl true) [] := by
    rw [p_all]
    have e2 : (([] : List W) ++ (List.range n).map fun _ => W.bl true) = List.replicate n (.bl true) := by
      rw [List.nil_append, List.map_const', List.length_range]
    simp only [pBls, lstOf, e2, all_true]
    simp
  have el : ev G (callK G (k + 1)) (.lc false (.nm 1) [1] (.rng1 (.op .max2 [.con (.int (2)), .op .min2 [.op .len [.var 0], .con (.int c)]])) [] (.call "_law_right" none [.call "_law_tank" none [.var 0, .var 1]])) [some w, none] [] = .ok (.vl (([] : List W) ++ (List.range n).map fun _ => .bl true)) [] := by
    rw [q_lc, ei, q_bindok, if_pos hr]
    have : wipeE [some w, none] [1] = [some w, none] := rfl
    rw [this, e]
    rfl
  refine ⟨[], ?_⟩
  have eb : exs G (callK G (k + 1)) (F_law c).body (startE (F_law c).ns [w]) [] = .fl (.rt (.bl true)) [] := by
    show exs G (callK G (k + 1)) [.ret (.op .all [.lc false (.nm 1) [1] (.rng1 (.op .max2 [.con (.int (2)), .op .min2 [.op .len [.var 0], .con (.int c)]])) [] (.call "_law_right" none [.call "_law_tank" none [.var 0, .var 1]])])] [some w, none] [] = _
    rw [q_exs1, q_ret, q_op, q_evs1, el]
    simp only [q_bindok, q_evs0, ea, q_ofok, q_nextrt]
  rw [eb, q_finrt, gc_ok0 rfl]
end
end Zv

set_option maxRecDepth 100000
set_option maxHeartbeats 4000000
/-! Ct11: contracts: rules made. -/
namespace Zv
open PySem
def ascFrom : Rat → List Rat → Prop
  | _, [] => True
  | a, x :: xs => a < x ∧ ascFrom x xs
def lastFrom : Rat → List Rat → Rat
  | a, [] => a
  | _, x :: xs => lastFrom x xs
/-- an offset and a head as they may be passed -/
structure RulArg (w : W) (off : Rat) (hs : List (W × Rat)) : Prop where
  num : Num w off
  off0 : 0 ≤ off
  off1 : off ≤ 1
  nums : ∀ h ∈ hs, Num h.1 h.2
  pos : ∀ h ∈ hs, 0 ≤ h.2
  asc : ascFrom (-1) (hs.map (·.2))
  last : hs ≠ [] → lastFrom (-1) (hs.map (·.2)) < ((hs.length : Int) : Rat) + off
  len : hs.length ≤ 8
  small : off.num.natAbs < 10 ^ 18 ∧ off.den < 10 ^ 18
  smalls : ∀ h ∈ hs, h.2.num.natAbs < 10 ^ 18 ∧ h.2.den < 10 ^ 18
theorem sz_small {q : Rat} (h : q.num.natAbs < 10 ^ 18 ∧ q.den < 10 ^ 18) : Zv.Sz 60 q := ⟨Nat.lt_trans h.1 (by decide), Nat.lt_trans h.2 (by decide)⟩
def wordsOf (off : Rat) (hs : List Rat) : Str := Txt.join (Str.ofString " ") (hs.map tQ ++ [Str.ofString "|", tQ off])
theorem tQ_len {q : Rat} (h0 : 0 ≤ q) (h : q.num.natAbs < 10 ^ 18 ∧ q.den < 10 ^ 18) : (tQ q).length ≤ 200 := by
  have hn : 0 ≤ q.num := Rat.num_nonneg.mpr h0
  obtain ⟨m, hm⟩ : ∃ m : Nat, q.num = (m : Int) := ⟨q.num.toNat, by omega⟩
  have l1 : (tI (m : Int)).length ≤ 60 := tI_len (by decide) (Nat.lt_trans (show m < 10 ^ 18 by omega) (by decide))
  have l2 : (tI (q.den : Int)).length ≤ 60 := tI_len (by decide) (Nat.lt_trans h.2 (by decide))
  have al : ∀ a b : Str, (a ++ b).length = a.length + b.length := fun a b => by
    show (Str.append a b).cps.size = _
    simp [Str.append, Str.length]
  have e0 : Str.empty.length = 0 := rfl
  have e1 : (Str.ofString "/").length = 1 := by decide +kernel
  unfold tQ
  rw [hm]
  split
  · omega
  · rw [al, al, al, e0, e1]; omega
section
variable {G : Prg} (P : Pg G) {st : Sto} {n k : Nat} {w : W} {off : Rat} {hs : List (W × Rat)}
include P
theorem c_isoffset (h : Num w off) (h0 : 0 ≤ off) (h1 : off ≤ 1) : callK G (k + 4) "is_offset" [w] st = .ok (.bl true) st := by
  rw [call_fn P.f_is_offset rfl rfl, P.k_is_offset]
  have hn : 0 ≤ off.num := Rat.num_nonneg.mpr h0
  have hd : off.num ≤ off.den := by
    have := (Rat.le_iff _ _).mp h1
    simpa using this
  simp [F_is_offset, c_isnum P h, c_exact P h, hn, hd]
  rw [gc_ok0 rfl]
theorem c_badmark' (h : RulArg w off hs) {wh : W} (h1 : enumItm wh st = .ok ⟨enumW 0 (hs.map (·.1)), []⟩ st) (h2 : prim .len [wh] st = .ok (.int hs.length) st) : callK G (k + 4) "first_bad_mark" [Q off, wh] st = .ok .non st := by
  rw [call_fn P.f_first_bad_mark rfl rfl, P.k_first_bad_mark]
  let E : Rat → Option W → Option W → En := fun a b c => [some (Q off), some wh, some (Q a), b, c, none]
  have loop : ∀ (I : Itm), I.at_ = [] → ∀ (es : List (W × Rat)) (a : Rat) (j : Nat) (b c : Option W), Zv.Sz 60 a → (∀ e ∈ es, Num e.1 e.2 ∧ 0 ≤ e.2 ∧ Zv.Sz 60 e.2) → ascFrom a (es.map (·.2)) → ∃ b' c', forE G (callK G (k + 3)) (.tp [.nm 3, .nm 4]) [.ife (.or (.not (.call "is_number" none [.var 4])) (.or (.op .lt [.op .ix [.call "exact" none [.var 4], .con (.int (0))], .con (.int (0))]) (.not (.call "less" none [.var 2, .call "exact" none [.var 4]])))) [.ret (.var 3)] [], .set 2 (.call "exact" none [.var 4])] I (enumW j (es.map (·.1))) (E a b c) st = .fl (.nx (E (lastFrom a (es.map (·.2))) b' c')) st := by
    intro I hI es
    induction es with
    | nil => intro a j b c _ _ _; exact ⟨b, c, forE_nil (by simp [Itm.chk, hI])⟩
    | cons e es ih =>
      intro a j b c ha he has
      obtain ⟨n1, n2, n3⟩ := he e (by simp)
      obtain ⟨b', c', ee⟩ := ih e.2 (j + 1) (some (N j)) (some e.1) n3 (fun x hx => he x (by simp [hx])) has.2
      refine ⟨b', c', ?_⟩
      have hlt : a < e.2 := has.1
      have l1 := c_less P (k := k + 2) (st := st) ha n3 (by omega)
      rw [decide_eq_true hlt] at l1
      have hnn : ¬ e.2.num < 0 := by have := Rat.num_nonneg.mpr n2; omega
      rw [List.map_cons, enumW, forE_cons (env1 := E a (some (N j)) (some e.1)) (env2 := E e.2 (some (N j)) (some e.1)) (st2 := st) (by simp [Itm.chk, hI]) rfl]
      · exact ee
      · simp [E, c_isnum P n1, c_exact P n1, hnn, l1]
  have hsz : ∀ e ∈ hs, Num e.1 e.2 ∧ 0 ≤ e.2 ∧ Zv.Sz 60 e.2 := fun e he => ⟨h.nums e he, h.pos e he, sz_small (h.smalls e he)⟩
  have hneg : Zv.Sz 60 (-1) := Sz.one.neg
  obtain ⟨b', c', L⟩ := loop ⟨enumW 0 (hs.map (·.1)), []⟩ rfl hs (-1) 0 none none hneg hsz h.asc
  have hm1 : (W.tup [.int (-1), .int 1]) = Q (-1) := rfl
  have hlast : Zv.Sz 60 (lastFrom (-1) (hs.map (·.2))) := by
    have : ∀ (es : List (W × Rat)) (a : Rat), Zv.Sz 60 a → (∀ e ∈ es, Zv.Sz 60 e.2) → Zv.Sz 60 (lastFrom a (es.map (·.2))) := by
      intro es
      induction es with
      | nil => intro a ha _; exact ha
      | cons e es ih => intro a _ he; exact ih e.2 (he e (by simp)) (fun x hx => he x (by simp [hx]))
    exact this hs (-1) hneg fun e he => (hsz e he).2.2
  simp only [F_first_bad_mark, q_exs1, q_set, q_op, q_evs1, q_evs0, q_con, q_bindok, p_negI, start_, List.map_cons, List.map_nil, List.length_cons, List.length_nil, Nat.reduceAdd, Nat.reduceSub, List.replicate, List.cons_append, List.nil_append, List.set_cons_succ, List.set_cons_zero, p_tup, szL, Nat.reduceLeDiff, if_true, hm1, q_ofok, q_nextnx, q_for, q_ienum, q_var, List.getElem?_cons_zero, List.getElem?_cons_succ, h1]
  rw [show forE G (callK G (k + 3)) _ _ _ _ _ st = _ from L]
  by_cases h0 : hs = []
  · subst h0
    simp [E, h2]
    rw [gc_ok0 rfl]
  · have hl := h.last h0
    have hp : 0 < hs.length := List.length_pos_iff.mpr h0
    have hp' : (0 : Int) < (hs.length : Int) := by omega
    have hls : Zv.Sz 60 (((hs.length : Int)) : Rat) := Sz.int (n := 59) (by
      have := h.len
      have h9 : (9 : Nat) < 2 ^ 60 := by decide
      simp; omega)
    have c1 := c_plus P (k := k) (st := st) hls (sz_small h.small) (by omega)
    rw [← Q_int] at c1
    have l1 := c_less P (k := k + 2) (st := st) (hlast.mono (m := 121) (by omega)) (hls.add (sz_small h.small)) (by omega)
    rw [decide_eq_true hl] at l1
    simp only [E, q_nextnx, q_exs1, q_set, q_op, q_evs1, q_evs0, q_var, List.getElem?_cons_zero, List.getElem?_cons_succ, q_bindok, h2, q_ofok, List.set_cons_succ, List.set_cons_zero, q_ret, q_ite, q_and, q_con, p_gtI, gt_iff_lt, hp', decide_true, q_trut, q_not, q_call, p_tup, List.length_cons, List.length_nil, Nat.reduceAdd, szL, Nat.reduceLeDiff, if_true, c1, l1, q_truf, q_nextrt, q_finrt]
    rw [gc_ok0 rfl]
theorem c_badmark (h : RulArg w off hs) : callK G (k + 4) "first_bad_mark" [Q off, .tup (hs.map (·.1))] st = .ok .non st := c_badmark' P h rfl (by rw [p_lenT, List.length_map])
theorem c_badmarkL (h : RulArg w off hs) : callK G (k + 4) "first_bad_mark" [Q off, .vl (hs.map (·.1))] st = .ok .non st := c_badmark' P h rfl (by rw [p_lenL, List.length_map])
theorem c_init (h : RulArg w off hs) : callK G (k + 5) "Rule.__init__" (.ref st.length :: w :: hs.map (·.1)) (st ++ [.ins "Rule" []]) = .ok .non (st ++ [.ins "Rule" (fsR ⟨off, hs.map (·.2), wordsOf off (hs.map (·.2))⟩)]) := by
  have hl := h.len
  rw [call_star P.f_Rule___init__ rfl ⟨by simp [F_Rule___init__], by simp [szL]; omega⟩, P.k_Rule___init__]
  have e0 : (W.ref st.length :: w :: hs.map (·.1)).take F_Rule___init__.np ++ [.tup ((W.ref st.length :: w :: hs.map (·.1)).drop F_Rule___init__.np)] = [.ref st.length, w, .tup (hs.map (·.1))] := rfl
  rw [e0]
  have hl8 : ¬ ((hs.length : Int) > 8) := by omega
  have hlz : hs.length ≤ szL := Nat.le_trans hl (by decide)
  have ex : ∀ (S : Sto) (env : En), 4 < env.length → lcE G (callK G (k + 4)) (.nm 4) env [] (.call "exact" none [.var 4]) ⟨hs.map (·.1), []⟩ (hs.map (·.1)) [] S = .ok ([] ++ hs.map fun c => Q c.2) S := fun S env he => by
    refine lcE_map rfl hs [] fun c hc => ⟨env.set 4 (some c.1), rfl, rfl, ?_, rfl⟩
    have g4 : (env.set 4 (some c.1))[4]? = some (some c.1) := List.getElem?_set_self he
    simp only [q_call, q_evs1, q_evs0, q_var, g4, q_bindok, c_exact P (h.nums c hc)]
  have tx : ∀ (S : Sto) (env : En), 4 < env.length → lcE G (callK G (k + 4)) (.nm 4) env [] (.call "exact_text" none [.var 4]) ⟨(hs.map (·.2)).map Q, []⟩ ((hs.map (·.2)).map Q) [] S = .ok ([] ++ (hs.map (·.2)).map fun q => .str (tQ q)) S := fun S env he => by
    refine lcE_map (G := G) (cl := callK G (k + 4)) (st := S) (t := .nm 4) (env := env) (cs := []) (e := .call "exact_text" none [.var 4]) (I := ⟨(hs.map (·.2)).map Q, []⟩) (g := Q) (h := fun q => W.str (tQ q)) rfl (hs.map (·.2)) [] fun q hq => ⟨env.set 4 (some (Q q)), rfl, rfl, ?_, rfl⟩
    obtain ⟨c, hc, rfl⟩ := List.mem_map.mp hq
    have g4 : (env.set 4 (some (Q c.2)))[4]? = some (some (Q c.2)) := List.getElem?_set_self he
    simp only [q_call, q_evs1, q_evs0, q_var, g4, q_bindok, c_text P (h.pos c hc) (h.smalls c hc).1 (h.smalls c hc).2]
  have eqm : (hs.map fun c => Q c.2) = (hs.map (·.2)).map Q := by rw [List.map_map]; rfl
  have off_ne : (Str.ofString "offset") ≠ (Str.ofString "head") := by decide +kernel
  have get : ∀ fs, (st ++ [.ins "Rule" fs])[st.length]? = some (.ins "Rule" fs) := fun fs => by simp
  have set : ∀ fs gs, (st ++ [Ob.ins "Rule" fs]).set st.length (.ins "Rule" gs) = st ++ [.ins "Rule" gs] := fun fs gs => by simp
  have pf1 : putF "offset" (Q off) [] = [(("offset" : Str), Q off)] := rfl
  have pf2 : ∀ x : W, putF "head" x [(("offset" : Str), Q off)] = [(("offset" : Str), Q off), (("head" : Str), x)] := fun x => rfl
  have pf3 : ∀ x y : W, putF "words" y [(("offset" : Str), Q off), (("head" : Str), x)] = [(("offset" : Str), Q off), (("head" : Str), x), (("words" : Str), y)] := fun x y => rfl
  have fl1 : ∀ x : W, fldsOf (st ++ [.ins "Rule" [(("offset" : Str), Q off), (("head" : Str), x)]]) (.ref st.length) = some (("Rule" : Str), [(("offset" : Str), Q off), (("head" : Str), x)]) := fun x => by simp [fldsOf]
  have lk1 : ∀ x : W, ([(("offset" : Str), Q off), (("head" : Str), x)] : List (Str × W)).lookup ("head" : Str) = some x := fun x => rfl
  have lk2 : ∀ x : W, ([(("offset" : Str), Q off), (("head" : Str), x)] : List (Str × W)).lookup ("offset" : Str) = some (Q off) := fun x => rfl
  have hjoin : ∀ S : Sto, prim .join [.str " ", .vl ((hs.map (·.2)).map (fun q => .str (tQ q)) ++ [.str "|", .str (tQ off)])] S = .ok (.str (wordsOf off (hs.map (·.2)))) S := fun S => by
    rw [p_join]
    have e1 : (hs.map (·.2)).map (fun q => W.str (tQ q)) ++ [W.str (Str.ofString "|"), .str (tQ off)] = ((hs.map (·.2)).map tQ ++ [Str.ofString "|", tQ off]).map W.str := by
      simp [List.map_append, List.map_map, Function.comp_def]
    have e2 : ∀ xs : List Str, allSome W.str? (xs.map W.str) = some xs := by
      intro xs
      induction xs with
      | nil => rfl
      | cons x xs ih => simp [allSome, W.str?, ih]
    have s1 : ∀ es : List (W × Rat), (∀ e ∈ es, (tQ e.2).length ≤ 200) → (((es.map (·.2)).map tQ).map (·.length)).sum ≤ es.length * 200 := by
      intro es
      induction es with
      | nil => intro _; simp
      | cons e es ih =>
        intro he
        have h1 := ih (fun x hx => he x (by simp [hx]))
        have h2 := he e (by simp)
        simp only [List.map_cons, List.sum_cons, List.length_cons, Nat.add_mul]
        omega
    have s2 := s1 hs (fun e he => tQ_len (h.pos e he) (h.smalls e he))
    have s3 := tQ_len h.off0 h.small
    have e3 : (Str.ofString "|").length = 1 := by decide +kernel
    have e4 : (Str.ofString " ").length = 1 := by decide +kernel
    have hfit : ((((hs.map (·.2)).map tQ ++ [Str.ofString "|", tQ off]).map (·.length)).sum + ((hs.map (·.2)).map tQ ++ [Str.ofString "|", tQ off]).length * (Str.ofString " ").length) ≤ szL := by
      rw [List.map_append, List.sum_append, List.length_append, e4]
      simp only [List.map_cons, List.map_nil, List.sum_cons, List.sum_nil, e3, List.length_map, List.length_cons, List.length_nil, szL] at s2 ⊢
      have : hs.length * 200 ≤ 1600 := by omega
      omega
    rw [e1]
    simp only [pJoin, items, e2, hfit, if_true]
    rfl
  have hlen2 : ((hs.map (·.2)).map (fun q => W.str (tQ q)) ++ [W.str (Str.ofString "|"), .str (tQ off)]).length ≤ szL := by
    simp only [List.length_append, List.length_map, List.length_cons, List.length_nil, szL]; omega
  have hseq : ∀ (S : Sto) (xs : List W), seqItm (.tup xs) S = .ok ⟨xs, []⟩ S := fun _ _ => rfl
  simp only [F_Rule___init__, q_exs1, q_exs0, q_ife, q_not, q_call, q_evs1, q_evs0, q_var, start_, List.map_cons, List.map_nil, List.length_cons, List.length_nil, Nat.reduceAdd, Nat.reduceSub, List.replicate, List.cons_append, List.nil_append, List.getElem?_cons_zero, List.getElem?_cons_succ, q_bindok, c_isoffset P h.num h.off0 h.off1, q_trut, q_ofok, q_truSf, q_nextnx, q_op, p_lenT, List.length_map, q_glo, P.c_MOST_HEAD, p_gtI, hl8, decide_false, q_set, c_exact P h.num, c_badmark P h, List.set_cons_succ, List.set_cons_zero, p_isnotN, pIsN, Bool.not_true, q_fldS, get, List.length_nil, Nat.reduceLT, decide_true, P.fo_offset, Bool.and_self, if_true, set, pf1, q_lc, q_iseq, hseq, hlz, wipeE]
  rw [ex _ _ (by simp)]
  simp only [q_bindok, List.nil_append, mkLf, noErr_ok, p_tupleL, q_ofok, q_var, List.getElem?_cons_zero, List.getElem?_cons_succ, get, List.length_cons, List.length_nil, Nat.reduceAdd, Nat.reduceLT, decide_true, P.fo_head, Bool.and_self, if_true, set, pf2, q_nextnx, q_exs1, q_fldS, q_bm, q_con, recvOk, q_evs1, q_lsts, q_evRs, q_evRp, q_evR0, q_lc, q_iseq, q_fld, fl1, lk1, lk2, eqm, hseq, List.length_map, hlz, wipeE, List.set_cons_succ, List.set_cons_zero]
  rw [tx _ _ (by simp)]
  simp only [q_bindok, List.nil_append, mkLf, noErr_ok, items, q_call, q_evs1, q_evs0, q_fld, q_var, List.getElem?_cons_zero, fl1, P.fo_offset, if_true, lk2, c_text P h.off0 h.small.1 h.small.2, List.append_nil, p_lst, hlen2, hjoin, q_ofok, get, List.length_cons, List.length_nil, Nat.reduceAdd, Nat.reduceLT, decide_true, P.fo_words, Bool.and_self, set, pf3, q_nextnx, q_exs0, q_finnx]
  have := gc_set (b := false) (st := st ++ [.ins "Rule" []]) (i := st.length) (o := .ins "Rule" (fsR ⟨off, hs.map (·.2), wordsOf off (hs.map (·.2))⟩)) (w := .non) (by
    have : W.rlts (st ++ [Ob.ins "Rule" []]).length ((hs.map (·.2)).map Q) = true := rlts_map (fun _ => rfl) _
    show W.rlts _ [Q off, .tup ((hs.map (·.2)).map Q), .str _] = true
    simp only [rlts_cons, rlt_Q, rlt_tup, rlt_str, rlt_int, rlts_nil, this, Bool.and_self, Bool.and_true]) rfl
  rw [set] at this
  exact this
/-- Rule(w, *hs) -/
theorem c_rule (h : RulArg w off hs) : ((callK G (k + 5) "Rule.__init__" (.ref st.length :: w :: hs.map (·.1)) (st ++ [.ins "Rule" []])).bind fun r st2 => (match r with
      | .non => mkO (G.frz "Rule") st st2
      | _ => .stuck)) = .ok (Rl.w ⟨off, hs.map (·.2), wordsOf off (hs.map (·.2))⟩) st := by
  rw [c_init P h]
  simp only [q_bindok, P.frz, mkO, if_true, List.getElem?_append_right (Nat.le_refl st.length), Nat.sub_self, List.getElem?_cons_zero, gcOk_app, List.take_left, Bool.true_and]
  have : W.rlts st.length ((fsR ⟨off, hs.map (·.2), wordsOf off (hs.map (·.2))⟩).map (·.2)) = true := by
    have : W.rlts st.length ((hs.map (·.2)).map Q) = true := rlts_map (fun _ => rfl) _
    show W.rlts _ [Q off, .tup ((hs.map (·.2)).map Q), .str _] = true
    simp only [rlts_cons, rlt_Q, rlt_tup, rlt_str, rlt_int, rlts_nil, this, Bool.and_self, Bool.and_true]
  rw [this]
  rfl
end
end Zv

set_option maxRecDepth 100000
set_option maxHeartbeats 4000000
/-! CtR: contracts: texts read. -/
namespace Zv
open PySem
abbrev D0 : Str := Str.ofString "0123456789"
theorem occ_dig : ∀ d : Fin 10, Builtin.Str.occurrences D0 ⟨#[48 + d.val]⟩ 0 D0.length 1 = [d.val] := by decide +kernel
theorem dig_of {c : Nat} (h : 48 ≤ c ∧ c ≤ 57) : Builtin.Str.occurrences D0 ⟨#[c]⟩ 0 D0.length 1 = [c - 48] := by
  have := occ_dig ⟨c - 48, by omega⟩
  simp only [show 48 + (c - 48) = c by omega] at this
  exact this
theorem num_dig {n c : Nat} (h : c ∈ TL.numL n) : 48 ≤ c ∧ c ≤ 57 := TL.numL_digits n c h
theorem num_head : ∀ (n : Nat) {r : List Nat}, TL.numL n = 48 :: r → n = 0 := by
  intro n
  induction n using Nat.strongRecOn with
  | _ n ih =>
    intro r h
    by_cases hn : n < 10
    · rw [TL.numL_lt hn] at h
      injection h with h1 h2
      omega
    · rw [TL.numL_step (by omega)] at h
      cases hl : TL.numL (n / 10) with
      | nil => exact absurd hl (TL.numL_ne _)
      | cons a l =>
        rw [hl] at h
        injection h with h1 h2
        have := ih (n / 10) (by omega) (r := l) (by rw [hl, h1])
        omega
theorem tl_tI (n : Nat) : (tI (n : Int)).cps.toList = TL.numL n := TL.tl_num n
theorem str_inj {x y : Str} (h : x.cps.toList = y.cps.toList) : x = y := by
  cases x; cases y
  simp only [Str.mk.injEq]
  exact Array.toList_inj.mp h
theorem strOk_of {x : Str} (h : ∀ c ∈ x.cps.toList, c < 200) : PyData.strOk x = true := by
  unfold PyData.strOk
  rw [← Array.all_toList]
  refine List.all_eq_true.mpr fun c hc => ?_
  have := h c hc
  simp; omega
theorem strOk_tI (n : Nat) : PyData.strOk (tI (n : Int)) = true := strOk_of fun c hc => by
  rw [tl_tI] at hc
  have := num_dig hc
  omega
theorem len_tl (x : Str) : x.length = x.cps.toList.length := by simp [Str.length]
theorem at0_nat {α : Type} {x : α} {xs : List α} : L2.atI (x :: xs) 0 = some x := by
  simp only [L2.atI, L2.ixN]
  rw [if_pos (by omega), if_pos (by simp)]
  rfl
theorem tI_inj {m n : Nat} (h : tI (m : Int) = tI (n : Int)) : m = n := by
  have := congrArg (fun x : Str => x.cps.toList) h
  simp only [tl_tI] at this
  exact TL.numL_inj this
def valL (l : List Nat) (a : Nat) : Nat := l.foldl (fun t c => t * 10 + (c - 48)) a
theorem val_num (n : Nat) : valL (TL.numL n) 0 = n := TL.numL_val n
section
variable {G : Prg} (P : Pg G) {st : Sto} {n k : Nat}
include P
theorem c_countin (h : n < 10 ^ 200) : callK G (k + 1) "count_in" [.str (tI (n : Int))] st = .ok (.int n) st := by
  rw [call_fn P.f_count_in rfl rfl, P.k_count_in]
  have hlen : (TL.numL n).length ≤ 200 := TL.numL_len (by decide) h
  have hL : (tI (n : Int)).length ≤ szL := by rw [len_tl, tl_tI]; simp only [szL]; omega
  obtain ⟨c0, r0, hc0⟩ : ∃ c r, TL.numL n = c :: r := by
    cases hl : TL.numL n with
    | nil => exact absurd hl (TL.numL_ne n)
    | cons a l => exact ⟨a, l, rfl⟩
  have ne0 : ¬ (tI (n : Int) = Str.ofString "") := fun e => by
    have := congrArg (fun x : Str => x.cps.toList) e
    simp only [tl_tI] at this
    have h0 : (Str.ofString "").cps.toList = [] := by decide +kernel
    rw [h0] at this
    exact TL.numL_ne n this
  have e1 : ∀ S : Sto, eqT G (callK G k) false (.str (tI (n : Int))) (.str (Str.ofString "")) S = .ok (.bl false) S := fun S => by
    have a1 : W.dat dep (.str (tI (n : Int))) = true := strOk_tI n
    have a2 : W.dat dep (.str (Str.ofString "")) = true := by decide +kernel
    rw [eqT_dat a1 a2, eqD_str, decide_eq_false ne0]; rfl
  have hseq : ∀ S : Sto, seqItm (.str (tI (n : Int))) S = .ok ⟨(TL.numL n).map fun c => .str ⟨#[c]⟩, []⟩ S := fun S => by
    simp only [seqItm, hL, if_true, tl_tI]
  have hnot : ∀ (c : Nat), c ∈ TL.numL n → ∀ S : Sto, prim .notin [.str ⟨#[c]⟩, .str D0] S = .ok (.bl false) S := fun c hc S => by
    rw [p_notin]
    simp only [pIn, if_true]
    rw [dig_of (num_dig hc)]
    rfl
  have hlc : ∀ (env : En) (S : Sto), 1 < env.length → lcE G (callK G k) (.nm 1) env [] (.op .notin [.var 1, .glo "DIGITS"]) ⟨(TL.numL n).map fun c => .str ⟨#[c]⟩, []⟩ ((TL.numL n).map fun c => .str ⟨#[c]⟩) [] S = .ok ([] ++ (TL.numL n).map fun _ => .bl false) S := fun env S he => by
    refine lcE_map rfl (TL.numL n) [] fun c hc => ⟨env.set 1 (some (.str ⟨#[c]⟩)), rfl, rfl, ?_, rfl⟩
    have g1 : (env.set 1 (some (W.str ⟨#[c]⟩)))[1]? = some (some (.str ⟨#[c]⟩)) := List.getElem?_set_self he
    simp only [q_op, q_evs1, q_evs0, q_var, g1, q_bindok, q_glo, P.c_DIGITS]
    exact hnot c hc S
  have hany : ∀ S : Sto, prim .any [.vl ((TL.numL n).map fun _ => W.bl false)] S = .ok (.bl false) S := fun S => by
    have : ∀ xs : List Nat, allSome W.bl? (xs.map fun _ => W.bl false) = some (xs.map fun _ => false) := by
      intro xs
      induction xs with
      | nil => rfl
      | cons x xs ih => simp [allSome, W.bl?, ih]
    have h2 : ∀ xs : List Nat, ((xs.map fun _ => false).any id) = false := by
      intro xs
      induction xs with
      | nil => rfl
      | cons x xs ih => simp
    simp only [p_any, pBls, lstOf, this, h2]
  have hix : ∀ S : Sto, prim .ix [.str (tI (n : Int)), .int 0] S = .ok (.str ⟨#[c0]⟩) S := fun S => by
    show pIx (.str (tI (n : Int))) (.int 0) S = _
    simp only [pIx, hL, if_true, tl_tI, hc0, at0_nat]
  have e2 : ∀ S : Sto, eqT G (callK G k) false (.str ⟨#[c0]⟩) (.str (Str.ofString "0")) S = .ok (.bl (decide (c0 = 48))) S := fun S => by
    have hc : 48 ≤ c0 ∧ c0 ≤ 57 := num_dig (n := n) (by rw [hc0]; simp)
    have a1 : W.dat dep (.str ⟨#[c0]⟩) = true := strOk_of fun c hc' => by simp at hc'; omega
    have a2 : W.dat dep (.str (Str.ofString "0")) = true := by decide +kernel
    have z0 : Str.ofString "0" = ⟨#[48]⟩ := by decide +kernel
    rw [eqT_dat a1 a2, eqD_str, z0]
    simp
  have e3 : c0 = 48 → ∀ S : Sto, eqT G (callK G k) true (.str (tI (n : Int))) (.str (Str.ofString "0")) S = .ok (.bl false) S := fun h48 S => by
    have hn0 : n = 0 := num_head n (r := r0) (by rw [hc0, h48])
    subst hn0
    have a1 : W.dat dep (.str (tI ((0 : Nat) : Int))) = true := strOk_tI 0
    have a2 : W.dat dep (.str (Str.ofString "0")) = true := by decide +kernel
    have z0 : tI ((0 : Nat) : Int) = Str.ofString "0" := rfl
    rw [eqT_dat a1 a2, eqD_str, z0]
    simp
  have loop : ∀ (I : Itm), I.at_ = [] → ∀ (l : List Nat) (a m : Nat) (o : Option W), (∀ c ∈ l, 48 ≤ c ∧ c ≤ 57) → a < 2 ^ m → m + 4 * l.length ≤ 2000 → ∃ o', forE G (callK G k) (.nm 1) [.set 2 (.op .add [.op .mul [.con (.int (10)), .var 2], .bm .sindex (.glo "DIGITS") [.var 1]])] I (l.map fun c => .str ⟨#[c]⟩) [some (.str (tI (n : Int))), o, some (.int a)] st = .fl (.nx [some (.str (tI (n : Int))), o', some (.int (valL l a))]) st := by
    intro I hI l
    induction l with
    | nil => intro a m o _ _ _; exact ⟨o, forE_nil (by simp [Itm.chk, hI])⟩
    | cons c l ih =>
      intro a m o hl ha hm
      have hc := hl c (by simp)
      simp only [List.length_cons] at hm
      have hb : a * 10 + (c - 48) < 2 ^ (m + 4) := by rw [Nat.pow_add]; omega
      obtain ⟨o', e⟩ := ih (a * 10 + (c - 48)) (m + 4) (some (.str ⟨#[c]⟩)) (fun x hx => hl x (by simp [hx])) hb (by omega)
      refine ⟨o', ?_⟩
      have mk : mulOk 10 (a : Int) = true := mul_ok (n := 4) (m := m) (by decide) (by simpa using ha) (by omega)
      have si : prim .sindex [.str D0, .str ⟨#[c]⟩] st = .ok (.int ((c - 48 : Nat) : Int)) st := by
        show pSindex (.str D0) (.str ⟨#[c]⟩) st = _
        simp only [pSindex, Txt.index0, dig_of hc, List.head?_cons]
      rw [List.map_cons, forE_cons (env1 := [some (.str (tI (n : Int))), some (.str ⟨#[c]⟩), some (.int a)]) (env2 := [some (.str (tI (n : Int))), some (.str ⟨#[c]⟩), some (.int ((a * 10 + (c - 48) : Nat) : Int))]) (st2 := st) (by simp [Itm.chk, hI]) rfl]
      · exact e
      · have ea : (10 : Int) * (a : Int) + ((c - 48 : Nat) : Int) = ((a * 10 + (c - 48) : Nat) : Int) := by omega
        simp only [q_exs1, q_exs0, q_set, q_op, q_evs1, q_evs0, q_con, q_var, List.getElem?_cons_zero, List.getElem?_cons_succ, q_bindok, p_mulI, mk, if_true, q_bm, q_glo, P.c_DIGITS, recvOk, si, p_addI, ea, q_ofok, List.set_cons_succ, List.set_cons_zero, q_nextnx]
  obtain ⟨o', L⟩ := loop ⟨(TL.numL n).map fun c => .str ⟨#[c]⟩, []⟩ rfl (TL.numL n) 0 1 (none) (fun c hc => num_dig hc) (by decide) (by omega)
  rw [val_num] at L
  have hz : (TL.numL n).length ≤ szL := by simp only [szL]; omega
  simp only [F_count_in, q_exs1, q_exs0, q_ife, q_or, q_eqo, q_var, q_con, start_, List.map_cons, List.map_nil, List.length_cons, List.length_nil, Nat.reduceAdd, Nat.reduceSub, List.replicate, List.cons_append, List.nil_append, List.getElem?_cons_zero, List.getElem?_cons_succ, q_bindok, e1, q_truf, q_op, q_evs1, q_evs0, q_lc, q_iseq, hseq, List.length_map, hz, if_true, wipeE, List.set_cons_succ, List.set_cons_zero]
  rw [hlc _ _ (by simp)]
  simp only [q_bindok, List.nil_append, mkLf, noErr_ok, hany, q_ofok, q_truSf, q_nextnx, q_and, q_op, q_evs1, q_evs0, q_var, q_con, q_eqo, List.getElem?_cons_zero, hix, e2]
  have fin2 : ∀ S : Sto, tru (.bl (decide (c0 = 48))) (eqT G (callK G k) true (.str (tI (n : Int))) (.str (Str.ofString "0")) S) (.ok (.bl false) S) = .ok (.bl false) S := fun S => by
    by_cases h48 : c0 = 48
    · rw [decide_eq_true h48, q_trut, e3 h48]
    · rw [decide_eq_false h48, q_truf]
  simp only [fin2, q_ofok, q_truSf, q_nextnx, q_set, q_con, List.set_cons_succ, List.set_cons_zero, q_for, q_iseq, q_var, List.getElem?_cons_zero, q_bindok, hseq]
  have L' : forE G (callK G k) (.nm 1) [.set 2 (.op .add [.op .mul [.con (.int (10)), .var 2], .bm .sindex (.glo "DIGITS") [.var 1]])] ⟨(TL.numL n).map fun c => .str ⟨#[c]⟩, []⟩ ((TL.numL n).map fun c => .str ⟨#[c]⟩) [some (.str (tI (n : Int))), none, some (.int 0)] st = _ := L
  rw [L']
  simp only [q_nextnx, q_exs1, q_ret, q_var, List.getElem?_cons_zero, List.getElem?_cons_succ, q_ofok, q_nextrt, q_finrt]
  rw [gc_ok0 rfl]
end
theorem tl_app (a b : Str) : (a ++ b).cps.toList = a.cps.toList ++ b.cps.toList := by
  show (Str.append a b).cps.toList = _
  simp [Str.append]
theorem tl_emp : Str.empty.cps.toList = [] := rfl
theorem tl_slash : (Str.ofString "/").cps.toList = [47] := by decide +kernel
theorem tl_bar : (Str.ofString "|").cps.toList = [124] := by decide +kernel
theorem tl_sp : (Str.ofString " ").cps.toList = [32] := by decide +kernel
theorem tQ_parts {q : Rat} (h0 : 0 ≤ q) : tQ q = Txt.join (Str.ofString "/") (if q.den = 1 then [tI (q.num.toNat : Int)] else [tI (q.num.toNat : Int), tI (q.den : Int)]) := by
  have hn : 0 ≤ q.num := Rat.num_nonneg.mpr h0
  have e : ((q.num.toNat : Nat) : Int) = q.num := by omega
  unfold tQ
  split
  · rw [e]; rfl
  · rw [e, TL.join_eq]
    refine str_inj ?_
    have := TL.tl_join (Str.ofString "/") [tI q.num, tI (q.den : Int)]
    unfold TL.tl at this
    rw [this]
    simp only [tl_app, tl_emp, tl_slash, List.map_cons, List.map_nil, TL.joinL, List.nil_append, List.append_assoc]
theorem tQ_chars {q : Rat} (h0 : 0 ≤ q) {c : Nat} (hc : c ∈ (tQ q).cps.toList) : 47 ≤ c ∧ c ≤ 57 := by
  have hn : 0 ≤ q.num := Rat.num_nonneg.mpr h0
  have e : q.num = ((q.num.toNat : Nat) : Int) := by omega
  unfold tQ at hc
  rw [e] at hc
  split at hc
  · rw [tl_tI] at hc; have := num_dig hc; omega
  · simp only [tl_app, tl_emp, tl_slash, List.nil_append, List.mem_append, tl_tI, List.mem_singleton] at hc
    rcases hc with (hc | hc) | hc
    · have := num_dig hc; omega
    · omega
    · have := num_dig hc; omega
theorem strOk_tQ {q : Rat} (h0 : 0 ≤ q) : PyData.strOk (tQ q) = true := strOk_of fun c hc => by
  have := tQ_chars h0 hc
  omega
theorem in_non {st : Sto} {xs : List W} (hd : W.dats 11 xs = true) (hn : ∀ x ∈ xs, W.eqD x .non = false) : prim .in_ [.non, .vl xs] st = .ok (.bl false) st := by
  have hd' : W.dat dep (.vl xs) = true := hd
  show pIn false .non (.vl xs) st = _
  have e1 : toD st dep .non = some .none := rfl
  have e2 := toD_dat (st := st) dep _ hd'
  obtain ⟨l1, l2⟩ := lay_dat _ _ hd'
  have hs : SeqAt.shaped (W.vl xs).toP = true := by
    unfold SeqAt.shaped
    have : (W.vl xs).toP.depth ≤ 64 := Nat.le_trans l2 (by decide)
    simp [l1, this]
  have e3 : (W.vl xs).toP = .list (W.toPs xs) := rfl
  rw [e3] at e2 hs
  have hs0 : SeqAt.shaped .none = true := rfl
  unfold pIn
  simp only [e1, e2, hs, hs0, Bool.and_self, if_true, Bool.false_eq_true, if_false]
  congr 2
  have key : ∀ ys : List W, W.dats 11 ys = true → (∀ x ∈ ys, W.eqD x .non = false) → (W.toPs ys).any (fun e => PyData.eqv e .none) = false := by
    intro ys
    induction ys with
    | nil => intro _ _; rfl
    | cons y ys ih =>
      intro hy hq
      simp only [dats_cons, Bool.and_eq_true] at hy
      have e5 := eqv_dat 11 11 y .non hy.1 rfl
      have e6 : W.toP .non = .none := rfl
      rw [e6, hq y (by simp)] at e5
      have e4 : W.toPs (y :: ys) = y.toP :: W.toPs ys := rfl
      rw [e4, List.any_cons, e5, ih hy.2 (fun x hx => hq x (by simp [hx]))]
      rfl
  exact key xs hd hn
theorem Num_Q {q : Rat} {n : Nat} (hn : q.den < 2 ^ n) (h : n < 7900) : Num (Q q) q := by
  have := Num.p q.num q.den n q.den_nz hn h
  rw [Rat.mkRat_self] at this
  exact this
section
variable {G : Prg} (P : Pg G) {st : Sto} {n k : Nat}
include P
theorem c_exactin {q : Rat} (h0 : 0 ≤ q) (h1 : q.num.natAbs < 10 ^ 200) (h2 : q.den < 10 ^ 200) : callK G (k + 3) "exact_in" [.str (tQ q)] st = .ok (Q q) st := by
  rw [call_fn P.f_exact_in rfl rfl, P.k_exact_in]
  have hn : 0 ≤ q.num := Rat.num_nonneg.mpr h0
  have en : ((q.num.toNat : Nat) : Int) = q.num := by omega
  have lt1 : (tI (q.num.toNat : Int)).length ≤ 200 := by rw [len_tl, tl_tI]; exact TL.numL_len (by decide) (by omega)
  have lt2 : (tI (q.den : Int)).length ≤ 200 := by rw [len_tl, tl_tI]; exact TL.numL_len (by decide) h2
  have al : ∀ a b : Str, (a ++ b).length = a.length + b.length := fun a b => by
    show (Str.append a b).cps.size = _
    simp [Str.append, Str.length]
  have hlen : (tQ q).length ≤ szL := by
    unfold tQ
    rw [← en]
    split
    · simp only [szL]; omega
    · rw [al, al, al, show Str.empty.length = 0 from rfl, show (Str.ofString "/").length = 1 by decide +kernel]; simp only [szL]; omega
  have hspl : Txt.split (tQ q) (Str.ofString "/") = (if q.den = 1 then [tI (q.num.toNat : Int)] else [tI (q.num.toNat : Int), tI (q.den : Int)]) := by
    rw [tQ_parts h0]
    refine TL.split_join (s := 47) (S := []) tl_slash (by decide +kernel) (by split <;> simp) fun p hp => ?_
    have : ∀ m : Nat, (47 : Nat) ∉ TL.tl (tI (m : Int)) := fun m hm => by
      have hm' : 47 ∈ TL.numL m := by rw [← tl_tI]; exact hm
      have := num_dig hm'
      omega
    split at hp
    · rw [List.mem_singleton.mp hp]; exact this _
    · rcases List.mem_cons.mp hp with rfl | hp
      · exact this _
      · rw [List.mem_singleton.mp hp]; exact this _
  have hsp : ∀ S : Sto, prim .split [.str (tQ q), .str (Str.ofString "/")] S = .ok (.vl ((if q.den = 1 then [tI (q.num.toNat : Int)] else [tI (q.num.toNat : Int), tI (q.den : Int)]).map W.str)) S := fun S => by
    rw [p_split]
    have z : ((Str.ofString "/").length == 0) = false := by decide +kernel
    simp only [pSplit, hlen, z, and_self, if_true, hspl]
  have cin : ∀ (m : Nat), m < 10 ^ 200 → ∀ S : Sto, callK G (k + 2) "count_in" [.str (tI (m : Int))] S = .ok (.int m) S := fun m hm S => c_countin P hm
  have hlc : ∀ (env : En) (S : Sto) (ms : List Nat), (∀ m ∈ ms, m < 10 ^ 200) → 2 < env.length → lcE G (callK G (k + 2)) (.nm 2) env [] (.call "count_in" none [.var 2]) ⟨ms.map fun m : Nat => W.str (tI (m : Int)), []⟩ (ms.map fun m : Nat => W.str (tI (m : Int))) [] S = .ok ([] ++ ms.map N) S := fun env S ms hms he => by
    refine lcE_map rfl ms [] fun m hm => ⟨env.set 2 (some (.str (tI (m : Int)))), rfl, rfl, ?_, rfl⟩
    have g1 : (env.set 2 (some (W.str (tI (m : Int)))))[2]? = some (some (.str (tI (m : Int)))) := List.getElem?_set_self he
    simp only [q_call, q_evs1, q_evs0, q_var, g1, q_bindok, cin m (hms m hm)]
  have hin : ∀ (S : Sto) (ms : List Nat), prim .in_ [.non, .vl (ms.map N)] S = .ok (.bl false) S := fun S ms => in_non (dats_map (fun _ => rfl) ms) (fun x hx => by
    obtain ⟨m, _, rfl⟩ := List.mem_map.mp hx
    rfl)
  have eN : N q.num.toNat = .int q.num := by show W.int _ = _; rw [en]
  by_cases hd : q.den = 1
  · have sp1 : ∀ S : Sto, prim .split [.str (tQ q), .str (Str.ofString "/")] S = .ok (.vl ([q.num.toNat].map fun m : Nat => W.str (tI (m : Int)))) S := fun S => by rw [hsp, if_pos hd]; rfl
    simp only [F_exact_in, q_exs1, q_set, q_lc, q_iseq, q_bm, q_var, q_con, start_, List.map_cons, List.map_nil, List.length_cons, List.length_nil, Nat.reduceAdd, Nat.reduceSub, List.replicate, List.cons_append, List.nil_append, List.getElem?_cons_zero, List.getElem?_cons_succ, q_bindok, recvOk, if_true, q_evs1, q_evs0, sp1, seqL, szL, Nat.reduceLeDiff, wipeE, List.set_cons_succ, List.set_cons_zero]
    have l2 := hlc [some (W.str (tQ q)), none, none] st [q.num.toNat] (by intro m hm; rw [List.mem_singleton.mp hm]; omega) (by simp)
    simp only [List.map_cons, List.map_nil] at l2
    rw [l2]
    have i2 := hin st [q.num.toNat]
    simp only [List.map_cons, List.map_nil] at i2
    simp only [q_bindok, List.nil_append, mkLf, noErr_ok, q_ofok, List.set_cons_succ, List.set_cons_zero, q_nextnx, q_ife, q_or, q_op, q_evs1, q_evs0, q_con, q_var, List.getElem?_cons_zero, List.getElem?_cons_succ, i2, q_truf, p_lenL, List.length_cons, List.length_nil, p_gtI, q_exs0, q_eqo, eqT_int, q_ret, p_ixL, at0]
    simp [szL, eqT_int]
    rw [gc_ok0 rfl, eN]
    show R.ok (W.tup [.int q.num, .int 1]) st = .ok (.tup [.int q.num, .int (q.den : Int)]) st
    rw [hd]
    rfl
  · have sp1 : ∀ S : Sto, prim .split [.str (tQ q), .str (Str.ofString "/")] S = .ok (.vl ([q.num.toNat, q.den].map fun m : Nat => W.str (tI (m : Int)))) S := fun S => by rw [hsp, if_neg hd]; rfl
    simp only [F_exact_in, q_exs1, q_set, q_lc, q_iseq, q_bm, q_var, q_con, start_, List.map_cons, List.map_nil, List.length_cons, List.length_nil, Nat.reduceAdd, Nat.reduceSub, List.replicate, List.cons_append, List.nil_append, List.getElem?_cons_zero, List.getElem?_cons_succ, q_bindok, recvOk, if_true, q_evs1, q_evs0, sp1, seqL, szL, Nat.reduceLeDiff, wipeE, List.set_cons_succ, List.set_cons_zero]
    have l2 := hlc [some (W.str (tQ q)), none, none] st [q.num.toNat, q.den] (by intro m hm; rcases List.mem_cons.mp hm with rfl | hm; · omega
                                                                                 · rw [List.mem_singleton.mp hm]; exact h2) (by simp)
    simp only [List.map_cons, List.map_nil] at l2
    rw [l2]
    have i2 := hin st [q.num.toNat, q.den]
    simp only [List.map_cons, List.map_nil] at i2
    have hden : q.den ≠ 0 := q.den_nz
    have hlt : ¬ ((q.den : Int) < 2) := by omega
    have cr := c_reduced P (k := k) (st := st) (p := q.num) (q := q.den) (n := 700) hden (Nat.lt_trans h2 (by decide +kernel)) (by decide)
    rw [Rat.mkRat_self] at cr
    have eqQ := eqT_Q (G := G) (cl := callK G (k + 2)) (neg := true) (st := st) (a := q) (b := q)
    simp only [decide_true, if_true, Bool.not_true] at eqQ
    simp only [q_bindok, List.nil_append, mkLf, noErr_ok, q_ofok, List.set_cons_succ, List.set_cons_zero, q_nextnx, q_ife, q_or, q_op, q_evs1, q_evs0, q_con, q_var, List.getElem?_cons_zero, List.getElem?_cons_succ, i2, q_truf, p_lenL, List.length_cons, List.length_nil, p_gtI, q_exs0, q_eqo, eqT_int, q_ret, p_ixL, at0, at1, p_ltI, hlt, decide_false, q_call, p_tup]
    rw [eN, show N q.den = .int (q.den : Int) from rfl]
    simp [szL, eqQ, eqT_int, hlt, cr]
    rw [gc_ok0 rfl]
/-- the text of a rule, read -/
theorem c_rulein {off : Rat} {hs : List Rat} (h : RulArg (Q off) off (hs.map fun q => (Q q, q))) : callK G (k + 6) "rule_in" [.str (wordsOf off hs)] st = .ok (Rl.w ⟨off, hs, wordsOf off hs⟩) st := by
  rw [call_fn P.f_rule_in rfl rfl, P.k_rule_in]
  have hl : hs.length ≤ 8 := by have := h.len; simpa using this
  have e1 : (hs.map fun q => (Q q, q)).map (·.1) = hs.map Q := by rw [List.map_map]; rfl
  have e2 : (hs.map fun q => (Q q, q)).map (·.2) = hs := by rw [List.map_map]; simp [Function.comp_def]
  have hpos : ∀ q ∈ hs, 0 ≤ q := fun q hq => h.pos (Q q, q) (List.mem_map.mpr ⟨q, hq, rfl⟩)
  have hsm : ∀ q ∈ hs, q.num.natAbs < 10 ^ 18 ∧ q.den < 10 ^ 18 := fun q hq => h.smalls (Q q, q) (List.mem_map.mpr ⟨q, hq, rfl⟩)
  let L : List Str := hs.map tQ ++ [Str.ofString "|", tQ off]
  have hL : L.length = hs.length + 2 := by simp [L]
  have hspl : Txt.split (wordsOf off hs) (Str.ofString " ") = L := by
    refine TL.split_join (s := 32) (S := []) tl_sp (by decide +kernel) (by simp) fun p hp => ?_
    rcases List.mem_append.mp hp with hp | hp
    · obtain ⟨q, hq, rfl⟩ := List.mem_map.mp hp
      intro hc
      have := tQ_chars (hpos q hq) hc
      omega
    · rcases List.mem_cons.mp hp with rfl | hp
      · intro hc
        have hc' : (32 : Nat) ∈ (Str.ofString "|").cps.toList := hc
        rw [tl_bar] at hc'
        simp at hc'
      · rw [List.mem_singleton.mp hp]
        intro hc
        have := tQ_chars h.off0 hc
        omega
  have hwl : (wordsOf off hs).length ≤ szL := by
    have key : ∀ (xs : List Str), (∀ x ∈ xs, x.length ≤ 200) → (Txt.join (Str.ofString " ") xs).length ≤ xs.length * 201 := by
      intro xs hx
      rw [TL.join_eq, len_tl]
      have := TL.tl_join (Str.ofString " ") xs
      unfold TL.tl at this
      rw [this, tl_sp]
      have k2 : ∀ (ys : List Str), (∀ x ∈ ys, x.length ≤ 200) → (TL.joinL [32] (ys.map fun x => x.cps.toList)).length ≤ ys.length * 201 := by
        intro ys
        induction ys with
        | nil => intro _; simp [TL.joinL]
        | cons y ys ih =>
          intro hy
          have h1 := ih (fun x hx => hy x (by simp [hx]))
          have h2 := hy y (by simp)
          rw [len_tl] at h2
          cases ys with
          | nil => simp [TL.joinL] at h2 ⊢; omega
          | cons z zs =>
            simp only [List.map_cons, TL.joinL, List.length_append, List.length_cons, List.length_nil] at h1 h2 ⊢
            omega
      exact k2 xs hx
    have h3 := key L (fun x hx => by
      rcases List.mem_append.mp hx with hp | hp
      · obtain ⟨q, hq, rfl⟩ := List.mem_map.mp hp
        exact tQ_len (hpos q hq) (hsm q hq)
      · rcases List.mem_cons.mp hp with rfl | hp
        · decide +kernel
        · rw [List.mem_singleton.mp hp]; exact tQ_len h.off0 h.small)
    have : (wordsOf off hs).length ≤ L.length * 201 := h3
    simp only [szL]
    omega
  have hsp : ∀ S : Sto, prim .split [.str (wordsOf off hs), .str (Str.ofString " ")] S = .ok (.vl (L.map W.str)) S := fun S => by
    rw [p_split]
    have z : ((Str.ofString " ").length == 0) = false := by decide +kernel
    simp only [pSplit, hwl, z, and_self, if_true, hspl]
  have atm : ∀ (j : Nat) (x : W), j ≤ (L.map W.str).length → 0 < j → (L.map W.str)[(L.map W.str).length - j]? = some x → L2.atI (L.map W.str) (-(j : Int)) = some x := fun j x hj hj0 hx => by
    simp only [L2.atI, L2.ixN]
    rw [if_neg (by omega), if_pos (by omega)]
    have : ((-(j : Int) + ((L.map W.str).length : Int))).toNat = (L.map W.str).length - j := by omega
    rw [Option.bind_some, this]
    exact hx
  have at2 : L2.atI (L.map W.str) (-2) = some (.str (Str.ofString "|")) := by
    refine atm 2 _ (by simp [hL]) (by decide) ?_
    simp [L, List.getElem?_append_right]
  have at1' : L2.atI (L.map W.str) (-1) = some (.str (tQ off)) := by
    refine atm 1 _ (by simp [hL]) (by decide) ?_
    simp [L, List.getElem?_append_right]
  have hcut : cutW (L.map W.str) none (some (-2)) = hs.map fun q => W.str (tQ q) := by
    unfold cutW
    have s1 : HT.sIx (L.map W.str).length 0 none = 0 := rfl
    have s2 : HT.sIx (L.map W.str).length (L.map W.str).length (some (-2)) = hs.length := by
      simp [HT.sIx, L]
      omega
    rw [s1, s2]
    simp [L, List.take_append, List.map_map, Function.comp_def]
  have ebar : ∀ S : Sto, eqT G (callK G (k + 5)) true (.str (Str.ofString "|")) (.str (Str.ofString "|")) S = .ok (.bl false) S := fun S => by
    have a2 : W.dat dep (.str (Str.ofString "|")) = true := by decide +kernel
    rw [eqT_dat a2 a2, eqD_str]; simp
  have b18 : (10 : Nat) ^ 18 < 10 ^ 200 := by decide +kernel
  have coff := c_exactin P (k := k + 2) (st := st) h.off0 (Nat.lt_trans h.small.1 b18) (Nat.lt_trans h.small.2 b18)
  have hlc : ∀ (env : En), 4 < env.length → lcE G (callK G (k + 5)) (.nm 4) env [] (.call "exact_in" none [.var 4]) ⟨hs.map fun q => W.str (tQ q), []⟩ (hs.map fun q => W.str (tQ q)) [] st = .ok ([] ++ hs.map Q) st := fun env he => by
    refine lcE_map rfl hs [] fun q hq => ⟨env.set 4 (some (.str (tQ q))), rfl, rfl, ?_, rfl⟩
    have g1 : (env.set 4 (some (W.str (tQ q))))[4]? = some (some (.str (tQ q))) := List.getElem?_set_self he
    simp only [q_call, q_evs1, q_evs0, q_var, g1, q_bindok]
    exact c_exactin P (k := k + 2) (hpos q hq) (Nat.lt_trans (hsm q hq).1 b18) (Nat.lt_trans (hsm q hq).2 b18)
  have hin : prim .in_ [.non, .vl (hs.map Q)] st = .ok (.bl false) st := in_non (dats_map (fun _ => rfl) hs) (fun x hx => by
    obtain ⟨m, _, rfl⟩ := List.mem_map.mp hx
    rfl)
  have cb := c_badmarkL P (k := k + 1) (st := st) h
  rw [e1] at cb
  have co := c_isoffset P (k := k + 1) (st := st) h.num h.off0 h.off1
  have cru := c_rule P (k := k) (st := st) h
  rw [e1, e2] at cru
  have z1 : ¬ ((hs.length : Int) + 2 < 2) := by omega
  have z2 : ¬ ((hs.length : Int) + 2 > 8 + 2) := by omega
  have hlz : hs.length ≤ szL := Nat.le_trans hl (by decide)
  have lenL : ∀ S : Sto, prim .len [.vl (L.map W.str)] S = .ok (.int ((hs.length : Int) + 2)) S := fun S => by
    rw [p_lenL, List.length_map, hL]; rfl
  have slc : ∀ S : Sto, prim (.slc false true) [.vl (L.map W.str), .int (-2)] S = .ok (.vl (hs.map fun q => W.str (tQ q))) S := fun S => by
    show pCut none (some (-2)) (.vl (L.map W.str)) S = _
    simp only [pCut, hcut]
  simp only [F_rule_in, q_exs1, q_exs0, q_set, q_bm, q_var, q_con, start_, List.map_cons, List.map_nil, List.length_cons, List.length_nil, Nat.reduceAdd, Nat.reduceSub, List.replicate, List.cons_append, List.nil_append, List.getElem?_cons_zero, List.getElem?_cons_succ, q_bindok, recvOk, if_true, q_evs1, q_evs0, hsp, q_ofok, List.set_cons_succ, List.set_cons_zero, q_nextnx, q_ife, q_or, q_op, lenL, p_ltI, z1, decide_false, q_truf, q_glo, P.c_MOST_HEAD, p_addI, p_gtI, z2, q_eqo, p_negI, p_ixL, at2, ebar, q_truSf, q_unp, q_call, at1', coff, q_lc, q_iseq, slc, seqL, List.length_map, hlz, wipeE]
  rw [hlc _ (by simp)]
  simp only [q_bindok, List.nil_append, mkLf, noErr_ok, p_tup, List.length_cons, List.length_nil, Nat.reduceAdd, szL, Nat.reduceLeDiff, if_true, q_ofok, put_tp, puts1, puts0, put_nm, List.set_cons_succ, List.set_cons_zero, q_nextnx, List.getElem?_cons_zero, List.getElem?_cons_succ, p_isN, pIsN, q_truf, q_not, q_evs1, q_evs0, q_call, q_var, co, q_trut, hin, q_op, cb, p_isnotN, Bool.not_true, q_truSf, q_exs1, q_ret, q_mk, q_evRp, q_evRs, q_evR0, items, List.append_nil, P.init]
  refine Eq.trans (congrArg (fun z => gcR false st (fin ((RS.of _ z fun w st1 => RS.fl (Fl.rt w) st1).next _))) cru) ?_
  simp only [q_ofok, q_nextrt, q_finrt]
  rw [gc_ok0 rlt_rule]
end
end Zv

set_option maxRecDepth 100000
set_option maxHeartbeats 4000000
/-! CtP: the source of draws of the laws about comparing; their texts of rules. -/
namespace Zv
open PySem
def F_pool : FnC := { np := 2, star := false, ns := 5, body := [.set 2 (.op .addm [.con (.int (90001)), .op .mul [.con (.int (7243)), .var 1]]), .forr (.nm 3) (.seq (.op (.slc false true) [.var 0, .con (.int (20))])) [.set 2 (.op .mod [.op .int [.op .addm [.op .mul [.var 2, .con (.int (45989))], .op .mod [.op .int [.var 3], .con (.int (2147483629))]]], .con (.int (2147483629))])], .set 4 (.ite (.op .lt [.var 1, .op .len [.var 0]]) (.op .int [.op .ix [.var 0, .var 1]]) (.op .addm [.op .mul [.con (.int (11)), .var 1], .con (.int (4))])), .ret (.op (.lst true) [.op .mod [.op .int [.op .addm [.var 2, .var 4]], .con (.int (2147483629))], .ite (.or (.op .lt [.var 4, .con (.int (0))]) (.op .ge [.var 4, .op .pow [.con (.int (10)), .con (.int (18))]])) (.op .abs [.var 4]) (.con (.int (0))), .con (.int (0))])] }
def F_draw : FnC := { np := 2, star := false, ns := 4, body := [.sub (.var 0) (.con (.int (2))) (.op .add [.op .ix [.var 0, .con (.int (2))], .con (.int (1))]), .set 2 (.op .int [.op .ix [.var 0, .con (.int (0))]]), .sub (.var 0) (.con (.int (0))) (.op .mod [.op .int [.op .add [.op .add [.op .mul [.var 2, .op .add [.op .mod [.op .int [.var 2], .con (.int (20011))], .con (.int (40009))]], .op .mul [.con (.int (61357)), .op .ix [.var 0, .con (.int (2))]]], .con (.int (29))]], .con (.int (2147483629))]), .ife (.op .gt [.op .ix [.var 0, .con (.int (1))], .con (.int (0))]) [.unpS (.var 0) (.con (.int (1))) 3 (.op .divmod [.op .int [.op .ix [.var 0, .con (.int (1))]], .var 1]), .ret (.var 3)] [], .ret (.op .mod [.op .int [.op .fdiv [.op .ix [.var 0, .con (.int (0))], .con (.int (128))]], .var 1])] }
def F_pick : FnC := { np := 2, star := false, ns := 2, body := [.ret (.op .ix [.var 1, .call "_law_draw" none [.var 0, .op .len [.var 1]]])] }
def F_common25 : FnC := { np := 2, star := false, ns := 2, body := [.whl (.op .gt [.var 1, .con (.int (0))]) [.unp (.tp [.nm 0, .nm 1]) (.op .tup [.var 1, .op .mod [.op .int [.var 0], .var 1]])], .ret (.var 0)] }
def F_word25 : FnC := { np := 2, star := false, ns := 3, body := [.set 2 (.call "_law_common" none [.var 0, .var 1]), .ret (.ite (.eqo false (.var 2) (.var 1)) (.stro (.op .fdiv [.var 0, .var 2])) (.op .add [.op .add [.stro (.op .fdiv [.var 0, .var 2]), .con (.str "/")], .stro (.op .fdiv [.var 1, .var 2])]))] }
def F_made25 : FnC := { np := 1, star := false, ns := 3, body := [.set 1 (.lc false (.nm 2) [2] (.seq (.op .ix [.var 0, .con (.int (1))])) [] (.call "_law_word" none [.var 2, .op .ix [.var 0, .con (.int (0))]])), .ret (.call "Rule.read" none [.bm .join (.con (.str " ")) [.op .add [.var 1, .op (.lst false) [.con (.str "|"), .call "_law_word" none [.op .ix [.var 0, .con (.int (2))], .op .ix [.var 0, .con (.int (0))]]]]]])] }
structure PgP (G : Prg) : Prop where
  f_pool : G.fn "_law_pool" = some F_pool
  f_draw : G.fn "_law_draw" = some F_draw
  f_pick : G.fn "_law_pick" = some F_pick
  f_common : G.fn "_law_common" = some F_common25
  f_word : G.fn "_law_word" = some F_word25
  f_made : G.fn "_law_made" = some F_made25
  k_pool : G.keep "_law_pool" = true
  k_draw : G.keep "_law_draw" = false
  k_pick : G.keep "_law_pick" = false
  k_common : G.keep "_law_common" = false
  k_word : G.keep "_law_word" = false
  k_made : G.keep "_law_made" = false
/-- the pool at place i, with at most d draws made -/
def Pk (tk : List W) (d : Nat) : Prop := ∃ a b c : Nat, tk = [.int a, .int b, .int c] ∧ a < 2 ^ 31 ∧ c ≤ d
theorem Pk.mono {tk : List W} {d e : Nat} (h : Pk tk d) (he : d ≤ e) : Pk tk e := by
  obtain ⟨a, b, c, h1, h2, h3⟩ := h
  exact ⟨a, b, c, h1, h2, Nat.le_trans h3 he⟩
section
variable {G : Prg} (T : PgP G) {st : Sto} {k : Nat}
include T
theorem c_draw {i d : Nat} {tk : List W} {many : Nat} (hi : i < st.length) (ht : Pk tk d) (hd : d < 2 ^ 64) (hm : 0 < many) (hm2 : many < 2 ^ 7000) :
    ∃ (r : Nat) (tk' : List W), r < many ∧ Pk tk' (d + 1) ∧ callK G (k + 1) "_law_draw" [.ref i, .int many] (st.set i (.lst tk)) = .ok (.int r) (st.set i (.lst tk')) := by
  obtain ⟨a, b, c, rfl, ha, hc⟩ := ht
  have hdiv : divOk (many : Int) = true := div_ok (n := 7000) (by omega) (by simpa using hm2) (by omega)
  rw [call_fn T.f_draw rfl rfl, T.k_draw]
  have ixr : ∀ (xs : List W) (j : Int), prim .ix [.ref i, .int j] (st.set i (.lst xs)) = (match L2.atI xs j with
      | some w => .ok w (st.set i (.lst xs))
      | none => .stuck) := fun xs j => by
    have h : (st.set i (.lst xs))[i]? = some (.lst xs) := List.getElem?_set_self hi
    show pIx (.ref i) (.int j) (st.set i (.lst xs)) = _
    simp only [pIx, items, h] <;> rfl
  have gt : ∀ xs : List W, (st.set i (Ob.lst xs))[i]? = some (.lst xs) := fun xs => List.getElem?_set_self hi
  have ss : ∀ xs ys : List W, (st.set i (Ob.lst xs)).set i (.lst ys) = st.set i (.lst ys) := fun xs ys => List.set_set _
  have i0 : L2.ixN 3 0 = some 0 := rfl
  have i1 : L2.ixN 3 1 = some 1 := rfl
  have i2 : L2.ixN 3 2 = some 2 := rfl
  obtain ⟨na, hna⟩ : ∃ na : Nat, (((a : Int) * ((a : Int) % 20011 + 40009) + 61357 * ((c : Int) + 1) + 29) % 2147483629) = (na : Int) := ⟨_, (Int.toNat_of_nonneg (Int.emod_nonneg _ (by decide))).symm⟩
  have hnal : na < 2 ^ 31 := by
    have := Int.emod_lt_of_pos ((a : Int) * ((a : Int) % 20011 + 40009) + 61357 * ((c : Int) + 1) + 29) (b := 2147483629) (by decide)
    rw [hna] at this
    omega
  have m1 : mulOk (a : Int) ((a : Int) % 20011 + 40009) = true := mul_ok (n := 31) (m := 31) (by simpa using ha) (by omega) (by omega)
  have m2 : mulOk 61357 ((c : Int) + 1) = true := mul_ok (n := 31) (m := 65) (by decide) (by omega) (by omega)
  have d1 : divOk 128 = true := by decide
  have z1 : decide ((0 : Int) < 20011) = true := by decide
  have z2 : decide ((0 : Int) < 2147483629) = true := by decide
  have body : ∀ r tk', exs G (callK G k) F_draw.body (startE F_draw.ns [.ref i, .int (many : Int)]) (st.set i (.lst [.int a, .int b, .int c])) = .fl (.rt (.int r)) (st.set i (.lst tk')) → W.rlts (st.set i (.lst [.int a, .int b, .int c])).length tk' = true → gcR false (st.set i (.lst [.int a, .int b, .int c])) (fin (exs G (callK G k) F_draw.body (startE F_draw.ns [.ref i, .int (many : Int)]) (st.set i (.lst [.int a, .int b, .int c])))) = .ok (.int r) (st.set i (.lst tk')) := by
    intro r tk' h hl
    rw [h, q_finrt]
    have := gc_set (b := false) (st := st.set i (.lst [.int a, .int b, .int c])) (i := i) (o := .lst tk') (w := .int r) hl rfl
    rw [ss] at this
    exact this
  by_cases hb : 0 < b
  · refine ⟨b % many, [.int na, .int ((b / many : Nat) : Int), .int ((c + 1 : Nat) : Int)], Nat.mod_lt _ hm, ⟨_, _, _, rfl, hnal, by omega⟩, body _ _ ?_ rfl⟩
    have hb' : (b : Int) > 0 := by omega
    simp only [F_draw, start_, List.map_cons, List.map_nil, List.length_cons, List.length_nil, Nat.reduceAdd, Nat.reduceSub, List.replicate, List.cons_append, List.nil_append, List.append_nil, Nat.sub_self]
    rw [q_exs1]
    simp only [q_set, q_unp, q_ret, q_exp, q_ife, q_op, q_evs1, q_evs0, q_var, q_con, q_call, q_ite, q_and, q_or, q_not, q_eqo, List.getElem?_cons_zero, List.getElem?_cons_succ, q_bindok, q_ofok, List.set_cons_succ, List.set_cons_zero, q_nextnx, q_nextrt, q_trut, q_truf, q_truSt, q_truSf, p_tup, p_lst, mkLf, mkLt, List.length_cons, List.length_nil, Nat.reduceAdd, Nat.reduceLeDiff, if_true, put_tp, puts1, puts0, put_nm, p_addI, p_subI, p_ltI, p_leI, p_gtI, p_geI, p_lenL, p_lenT, p_ixL, p_ixT, q_lc, q_iseq, q_irng1, q_irng2, seqL, seqT, wipeE, noErr_ok, q_exs0, q_sub, ixr, at0, at1, at2, gt, i2, ss]
    rw [q_exs1]
    simp only [q_set, q_unp, q_ret, q_exp, q_ife, q_op, q_evs1, q_evs0, q_var, q_con, q_call, q_ite, q_and, q_or, q_not, q_eqo, List.getElem?_cons_zero, List.getElem?_cons_succ, q_bindok, q_ofok, List.set_cons_succ, List.set_cons_zero, q_nextnx, q_nextrt, q_trut, q_truf, q_truSt, q_truSf, p_tup, p_lst, mkLf, mkLt, List.length_cons, List.length_nil, Nat.reduceAdd, Nat.reduceLeDiff, if_true, put_tp, puts1, puts0, put_nm, p_addI, p_subI, p_ltI, p_leI, p_gtI, p_geI, p_lenL, p_lenT, p_ixL, p_ixT, q_lc, q_iseq, q_irng1, q_irng2, seqL, seqT, wipeE, noErr_ok, q_exs0, ixr, at0, at1, at2, p_int]
    rw [q_exs1]
    simp only [q_set, q_unp, q_ret, q_exp, q_ife, q_op, q_evs1, q_evs0, q_var, q_con, q_call, q_ite, q_and, q_or, q_not, q_eqo, List.getElem?_cons_zero, List.getElem?_cons_succ, q_bindok, q_ofok, List.set_cons_succ, List.set_cons_zero, q_nextnx, q_nextrt, q_trut, q_truf, q_truSt, q_truSf, p_tup, p_lst, mkLf, mkLt, List.length_cons, List.length_nil, Nat.reduceAdd, Nat.reduceLeDiff, if_true, put_tp, puts1, puts0, put_nm, p_addI, p_subI, p_ltI, p_leI, p_gtI, p_geI, p_lenL, p_lenT, p_ixL, p_ixT, q_lc, q_iseq, q_irng1, q_irng2, seqL, seqT, wipeE, noErr_ok, q_exs0, q_sub, ixr, at0, at1, at2, p_int, p_modI, z1, z2, p_mulI, m1, m2, hna, gt, i0, ss]
    rw [q_exs1]
    simp only [q_set, q_unp, q_ret, q_exp, q_ife, q_op, q_evs1, q_evs0, q_var, q_con, q_call, q_ite, q_and, q_or, q_not, q_eqo, List.getElem?_cons_zero, List.getElem?_cons_succ, q_bindok, q_ofok, List.set_cons_succ, List.set_cons_zero, q_nextnx, q_nextrt, q_trut, q_truf, q_truSt, q_truSf, p_tup, p_lst, mkLf, mkLt, List.length_cons, List.length_nil, Nat.reduceAdd, Nat.reduceLeDiff, if_true, put_tp, puts1, puts0, put_nm, p_addI, p_subI, p_ltI, p_leI, p_gtI, p_geI, p_lenL, p_lenT, p_ixL, p_ixT, q_lc, q_iseq, q_irng1, q_irng2, seqL, seqT, wipeE, noErr_ok, q_exs0, ixr, at0, at1, at2, hb', decide_true]
    rw [q_exs1]
    simp only [q_set, q_unp, q_ret, q_exp, q_ife, q_op, q_evs1, q_evs0, q_var, q_con, q_call, q_ite, q_and, q_or, q_not, q_eqo, List.getElem?_cons_zero, List.getElem?_cons_succ, q_bindok, q_ofok, List.set_cons_succ, List.set_cons_zero, q_nextnx, q_nextrt, q_trut, q_truf, q_truSt, q_truSf, p_tup, p_lst, mkLf, mkLt, List.length_cons, List.length_nil, Nat.reduceAdd, Nat.reduceLeDiff, if_true, put_tp, puts1, puts0, put_nm, p_addI, p_subI, p_ltI, p_leI, p_gtI, p_geI, p_lenL, p_lenT, p_ixL, p_ixT, q_lc, q_iseq, q_irng1, q_irng2, seqL, seqT, wipeE, noErr_ok, q_exs0, q_unpS, ixr, at0, at1, at2, p_int, p_divmod, hdiv, gt, i1, ss]
    rw [q_exs1]
    simp only [q_set, q_unp, q_ret, q_exp, q_ife, q_op, q_evs1, q_evs0, q_var, q_con, q_call, q_ite, q_and, q_or, q_not, q_eqo, List.getElem?_cons_zero, List.getElem?_cons_succ, q_bindok, q_ofok, List.set_cons_succ, List.set_cons_zero, q_nextnx, q_nextrt, q_trut, q_truf, q_truSt, q_truSf, p_tup, p_lst, mkLf, mkLt, List.length_cons, List.length_nil, Nat.reduceAdd, Nat.reduceLeDiff, if_true, put_tp, puts1, puts0, put_nm, p_addI, p_subI, p_ltI, p_leI, p_gtI, p_geI, p_lenL, p_lenT, p_ixL, p_ixT, q_lc, q_iseq, q_irng1, q_irng2, seqL, seqT, wipeE, noErr_ok, q_exs0]
    simp
  · have hb0 : b = 0 := by omega
    subst hb0
    refine ⟨na / 128 % many, [.int na, .int 0, .int ((c + 1 : Nat) : Int)], Nat.mod_lt _ hm, ⟨na, 0, c + 1, rfl, hnal, by omega⟩, body _ _ ?_ rfl⟩
    have zm : decide ((0 : Int) < (many : Int)) = true := decide_eq_true (by omega)
    simp only [F_draw, start_, List.map_cons, List.map_nil, List.length_cons, List.length_nil, Nat.reduceAdd, Nat.reduceSub, List.replicate, List.cons_append, List.nil_append, List.append_nil, Nat.sub_self]
    rw [q_exs1]
    simp only [q_set, q_unp, q_ret, q_exp, q_ife, q_op, q_evs1, q_evs0, q_var, q_con, q_call, q_ite, q_and, q_or, q_not, q_eqo, List.getElem?_cons_zero, List.getElem?_cons_succ, q_bindok, q_ofok, List.set_cons_succ, List.set_cons_zero, q_nextnx, q_nextrt, q_trut, q_truf, q_truSt, q_truSf, p_tup, p_lst, mkLf, mkLt, List.length_cons, List.length_nil, Nat.reduceAdd, Nat.reduceLeDiff, if_true, put_tp, puts1, puts0, put_nm, p_addI, p_subI, p_ltI, p_leI, p_gtI, p_geI, p_lenL, p_lenT, p_ixL, p_ixT, q_lc, q_iseq, q_irng1, q_irng2, seqL, seqT, wipeE, noErr_ok, q_exs0, q_sub, ixr, at0, at1, at2, gt, i2, ss]
    rw [q_exs1]
    simp only [q_set, q_unp, q_ret, q_exp, q_ife, q_op, q_evs1, q_evs0, q_var, q_con, q_call, q_ite, q_and, q_or, q_not, q_eqo, List.getElem?_cons_zero, List.getElem?_cons_succ, q_bindok, q_ofok, List.set_cons_succ, List.set_cons_zero, q_nextnx, q_nextrt, q_trut, q_truf, q_truSt, q_truSf, p_tup, p_lst, mkLf, mkLt, List.length_cons, List.length_nil, Nat.reduceAdd, Nat.reduceLeDiff, if_true, put_tp, puts1, puts0, put_nm, p_addI, p_subI, p_ltI, p_leI, p_gtI, p_geI, p_lenL, p_lenT, p_ixL, p_ixT, q_lc, q_iseq, q_irng1, q_irng2, seqL, seqT, wipeE, noErr_ok, q_exs0, ixr, at0, at1, at2, p_int]
    rw [q_exs1]
    simp only [q_set, q_unp, q_ret, q_exp, q_ife, q_op, q_evs1, q_evs0, q_var, q_con, q_call, q_ite, q_and, q_or, q_not, q_eqo, List.getElem?_cons_zero, List.getElem?_cons_succ, q_bindok, q_ofok, List.set_cons_succ, List.set_cons_zero, q_nextnx, q_nextrt, q_trut, q_truf, q_truSt, q_truSf, p_tup, p_lst, mkLf, mkLt, List.length_cons, List.length_nil, Nat.reduceAdd, Nat.reduceLeDiff, if_true, put_tp, puts1, puts0, put_nm, p_addI, p_subI, p_ltI, p_leI, p_gtI, p_geI, p_lenL, p_lenT, p_ixL, p_ixT, q_lc, q_iseq, q_irng1, q_irng2, seqL, seqT, wipeE, noErr_ok, q_exs0, q_sub, ixr, at0, at1, at2, p_int, p_modI, z1, z2, p_mulI, m1, m2, hna, gt, i0, ss]
    rw [q_exs1]
    have z0 : ¬ (((0 : Nat) : Int) > 0) := by decide
    simp only [q_set, q_unp, q_ret, q_exp, q_ife, q_op, q_evs1, q_evs0, q_var, q_con, q_call, q_ite, q_and, q_or, q_not, q_eqo, List.getElem?_cons_zero, List.getElem?_cons_succ, q_bindok, q_ofok, List.set_cons_succ, List.set_cons_zero, q_nextnx, q_nextrt, q_trut, q_truf, q_truSt, q_truSf, p_tup, p_lst, mkLf, mkLt, List.length_cons, List.length_nil, Nat.reduceAdd, Nat.reduceLeDiff, if_true, put_tp, puts1, puts0, put_nm, p_addI, p_subI, p_ltI, p_leI, p_gtI, p_geI, p_lenL, p_lenT, p_ixL, p_ixT, q_lc, q_iseq, q_irng1, q_irng2, seqL, seqT, wipeE, noErr_ok, q_exs0, ixr, at0, at1, at2, z0, decide_false]
    rw [q_exs1]
    simp only [q_set, q_unp, q_ret, q_exp, q_ife, q_op, q_evs1, q_evs0, q_var, q_con, q_call, q_ite, q_and, q_or, q_not, q_eqo, List.getElem?_cons_zero, List.getElem?_cons_succ, q_bindok, q_ofok, List.set_cons_succ, List.set_cons_zero, q_nextnx, q_nextrt, q_trut, q_truf, q_truSt, q_truSf, p_tup, p_lst, mkLf, mkLt, List.length_cons, List.length_nil, Nat.reduceAdd, Nat.reduceLeDiff, if_true, put_tp, puts1, puts0, put_nm, p_addI, p_subI, p_ltI, p_leI, p_gtI, p_geI, p_lenL, p_lenT, p_ixL, p_ixT, q_lc, q_iseq, q_irng1, q_irng2, seqL, seqT, wipeE, noErr_ok, q_exs0, ixr, at0, at1, at2, p_fdivI, d1, p_int, p_modI, zm]
    simp
theorem c_pick {i d : Nat} {tk : List W} {xs : List W} (hi : i < st.length) (ht : Pk tk d) (hd : d < 2 ^ 64) (hx : 0 < xs.length) (hx2 : xs.length < 2 ^ 60) (hr : ∀ x ∈ xs, x.rlt st.length = true) :
    ∃ (x : W) (tk' : List W), x ∈ xs ∧ Pk tk' (d + 1) ∧ callK G (k + 2) "_law_pick" [.ref i, .vl xs] (st.set i (.lst tk)) = .ok x (st.set i (.lst tk')) := by
  obtain ⟨r, tk', h1, h2, h3⟩ := c_draw T (k := k) hi ht hd hx (Nat.lt_trans hx2 (by decide +kernel))
  refine ⟨xs[r], tk', List.getElem_mem h1, h2, ?_⟩
  rw [call_fn T.f_pick rfl rfl, T.k_pick]
  have e : L2.atI xs (r : Int) = some xs[r] := by rw [at_nat h1, List.getElem?_eq_getElem h1]
  simp only [F_pick, start_, List.map_cons, List.map_nil, List.length_cons, List.length_nil, Nat.reduceAdd, Nat.reduceSub, List.replicate, List.cons_append, List.nil_append, List.append_nil, Nat.sub_self]
  rw [q_exs1]
  simp only [q_set, q_unp, q_ret, q_exp, q_ife, q_op, q_evs1, q_evs0, q_var, q_con, q_call, q_ite, q_and, q_or, q_not, q_eqo, List.getElem?_cons_zero, List.getElem?_cons_succ, q_bindok, q_ofok, List.set_cons_succ, List.set_cons_zero, q_nextnx, q_nextrt, q_trut, q_truf, q_truSt, q_truSf, p_tup, p_lst, mkLf, mkLt, List.length_cons, List.length_nil, Nat.reduceAdd, Nat.reduceLeDiff, if_true, put_tp, puts1, puts0, put_nm, p_addI, p_subI, p_ltI, p_leI, p_gtI, p_geI, p_lenL, p_lenT, p_ixL, p_ixT, q_lc, q_iseq, q_irng1, q_irng2, seqL, seqT, wipeE, noErr_ok, q_exs0, h3, e, q_finrt]
  have ss : ∀ xs ys : List W, (st.set i (Ob.lst xs)).set i (.lst ys) = st.set i (.lst ys) := fun xs ys => List.set_set _
  obtain ⟨a, b, c, rfl, _, _⟩ := h2
  have := gc_set (b := false) (st := st.set i (.lst tk)) (i := i) (o := .lst [.int a, .int b, .int c]) (w := xs[r]) rfl (by rw [List.length_set]; exact hr _ (List.getElem_mem h1))
  rw [ss] at this
  exact this
theorem c_pool {w : W} {ns : List Int} {j : Nat} (hw : ScrW w ns) (hj : j < 1000) :
    ∃ tk : List W, Pk tk 0 ∧ callK G (k + 1) "_law_pool" [w, .int j] st = .ok (.ref st.length) (st ++ [.lst tk]) := by
  have hw2 : (∀ (S : Sto) (i : Int), prim (.slc false true) [w, .int i] S = .ok (.vl (cutW (ns.map W.int) none (some i))) S) ∧ (∀ (S : Sto) (i : Int), prim .ix [w, .int i] S = match L2.atI (ns.map W.int) i with
      | some w => .ok w S
      | none => .stuck) ∧ (∀ S : Sto, prim .len [w] S = .ok (.int ns.length) S) := by
    rcases hw with rfl | rfl
    · exact ⟨fun _ _ => rfl, fun _ _ => rfl, fun S => by simp⟩
    · exact ⟨fun _ _ => rfl, fun _ _ => rfl, fun S => by simp⟩
  obtain ⟨w1, w2, w3⟩ := hw2
  rw [call_fn T.f_pool rfl rfl, T.k_pool]
  obtain ⟨ms, hms⟩ : ∃ ms : List Int, cutW (ns.map W.int) none (some 20) = ms.map W.int := by
    refine ⟨(ns.drop (HT.sIx (ns.map W.int).length 0 none)).take (HT.sIx (ns.map W.int).length (ns.map W.int).length (some 20) - HT.sIx (ns.map W.int).length 0 none), ?_⟩
    unfold cutW
    rw [List.map_take, List.map_drop]
  have hmul : mulOk 7243 (j : Int) = true := mul_ok (n := 31) (m := 31) (by decide) (by simp; omega) (by omega)
  have hmul5 : mulOk 11 (j : Int) = true := mul_ok (n := 31) (m := 31) (by decide) (by simp; omega) (by omega)
  have zp : decide ((0 : Int) < 2147483629) = true := by decide
  have key : ∀ (I : Itm) (rs : List Int) (m : Nat) (o : Option W), I.at_ = [] → m < 2 ^ 31 → ∃ (m' : Nat) (o' : Option W), m' < 2 ^ 31 ∧ forE G (callK G k) (.nm 3) [.set 2 (.op .mod [.op .int [.op .addm [.op .mul [.var 2, .con (.int (45989))], .op .mod [.op .int [.var 3], .con (.int (2147483629))]]], .con (.int (2147483629))])] I (rs.map W.int) [some w, some (.int j), some (.int m), o, none] st = .fl (.nx [some w, some (.int j), some (.int m'), o', none]) st := by
    intro I rs
    induction rs with
    | nil => intro m o hI hm; exact ⟨m, o, hm, forE_nil (by simp [Itm.chk, hI])⟩
    | cons r rs ih =>
      intro m o hI hm
      have hmm : mulOk (m : Int) 45989 = true := mul_ok (n := 31) (m := 31) (by simpa using hm) (by decide) (by omega)
      have hx : 0 ≤ ((m : Int) * 45989 + r % 2147483629) % 2147483629 := by omega
      obtain ⟨m2, hm2⟩ : ∃ m2 : Nat, ((m : Int) * 45989 + r % 2147483629) % 2147483629 = (m2 : Int) := ⟨_, (Int.toNat_of_nonneg hx).symm⟩
      have hm2l : m2 < 2 ^ 31 := by omega
      obtain ⟨m', o', hm', e⟩ := ih m2 (some (.int r)) hI hm2l
      refine ⟨m', o', hm', ?_⟩
      rw [List.map_cons, forE_cons (env2 := [some w, some (.int j), some (.int m2), some (.int r), none]) (st2 := st) (by simp [Itm.chk, hI]) rfl]
      · exact e
      · rw [q_exs1]
        simp only [p_addmI, q_set, q_unp, q_ret, q_exp, q_ife, q_op, q_evs1, q_evs0, q_var, q_con, q_call, q_ite, q_and, q_or, q_not, q_eqo, List.getElem?_cons_zero, List.getElem?_cons_succ, q_bindok, q_ofok, List.set_cons_succ, List.set_cons_zero, q_nextnx, q_nextrt, q_trut, q_truf, q_truSt, q_truSf, p_tup, p_lst, mkLf, mkLt, List.length_cons, List.length_nil, Nat.reduceAdd, Nat.reduceLeDiff, if_true, put_tp, puts1, puts0, put_nm, p_addI, p_subI, p_ltI, p_leI, p_gtI, p_geI, p_lenL, p_lenT, p_ixL, p_ixT, q_lc, q_iseq, q_irng1, q_irng2, seqL, seqT, wipeE, noErr_ok, q_exs0, p_mulI, hmm, p_int, p_modI, zp, hm2]
  obtain ⟨m', o', hm', e⟩ := key ⟨ms.map W.int, []⟩ ms (90001 + 7243 * j) none rfl (by omega)
  have e0 : ((90001 + 7243 * j : Nat) : Int) = 90001 + 7243 * (j : Int) := by omega
  rw [e0] at e
  obtain ⟨own, hown⟩ : ∃ own : Int, ∀ env : En, env[0]? = some (some w) → env[1]? = some (some (.int j)) → ev G (callK G k) (.ite (.op .lt [.var 1, .op .len [.var 0]]) (.op .int [.op .ix [.var 0, .var 1]]) (.op .addm [.op .mul [.con (.int (11)), .var 1], .con (.int (4))])) env st = .ok (.int own) st := by
    by_cases hl : j < ns.length
    · refine ⟨ns[j], fun env h0 h1 => ?_⟩
      have : L2.atI (ns.map W.int) (j : Int) = some (.int ns[j]) := by
        rw [at_nat (by simpa using hl), List.getElem?_map, List.getElem?_eq_getElem hl]; rfl
      have hl' : ((j : Int) < (ns.length : Int)) := by omega
      simp only [q_ite, q_op, q_evs1, q_evs0, q_var, h0, h1, q_bindok, w3, p_ltI, hl', decide_true, q_trut, w2, this, p_int]
    · refine ⟨11 * j + 4, fun env h0 h1 => ?_⟩
      have hl' : ¬ ((j : Int) < (ns.length : Int)) := by omega
      simp only [q_ite, q_op, q_evs1, q_evs0, q_var, h0, h1, q_bindok, w3, p_ltI, hl', decide_false, q_truf, q_con, p_mulI, hmul5, if_true, p_addI, p_addmI]
  have hpow : ∀ S : Sto, prim .pow [.int 10, .int 18] S = .ok (.int (10 ^ 18)) S := fun S => by
    rw [p_powI]
    rfl
  obtain ⟨a, ha⟩ : ∃ a : Nat, ∀ env : En, env[4]? = some (some (.int own)) → ev G (callK G k) (.ite (.or (.op .lt [.var 4, .con (.int (0))]) (.op .ge [.var 4, .op .pow [.con (.int (10)), .con (.int (18))]])) (.op .abs [.var 4]) (.con (.int (0)))) env st = .ok (.int a) st := by
    by_cases h1 : own < 0
    · refine ⟨own.natAbs, fun env h4 => ?_⟩
      have : -own = (own.natAbs : Int) := by omega
      simp only [q_ite, q_or, q_op, q_evs1, q_evs0, q_var, h4, q_bindok, q_con, p_ltI, h1, decide_true, q_trut, p_abs, if_true]
      rw [this]
    · by_cases h2 : own ≥ 10 ^ 18
      · refine ⟨own.natAbs, fun env h4 => ?_⟩
        have : own = (own.natAbs : Int) := by omega
        simp only [q_ite, q_or, q_op, q_evs1, q_evs0, q_var, h4, q_bindok, q_con, p_ltI, h1, decide_false, q_truf, hpow, p_geI, h2, decide_true, q_trut, p_abs, if_false]
        rw [← this]
      · refine ⟨0, fun env h4 => ?_⟩
        simp only [q_ite, q_or, q_op, q_evs1, q_evs0, q_var, h4, q_bindok, q_con, p_ltI, h1, decide_false, q_truf, hpow, p_geI, h2]
        rfl
  have hx : 0 ≤ ((m' : Int) + own) % 2147483629 := by omega
  obtain ⟨b, hb⟩ : ∃ b : Nat, ((m' : Int) + own) % 2147483629 = (b : Int) := ⟨_, (Int.toNat_of_nonneg hx).symm⟩
  have hbl : b < 2 ^ 31 := by omega
  refine ⟨[.int b, .int a, .int 0], ⟨b, a, 0, rfl, hbl, Nat.le_refl _⟩, ?_⟩
  simp only [F_pool, start_, List.map_cons, List.map_nil, List.length_cons, List.length_nil, Nat.reduceAdd, Nat.reduceSub, List.replicate, List.cons_append, List.nil_append, List.append_nil, Nat.sub_self]
  rw [q_exs1]
  simp only [p_addmI, q_set, q_unp, q_ret, q_exp, q_ife, q_op, q_evs1, q_evs0, q_var, q_con, q_call, q_ite, q_and, q_or, q_not, q_eqo, List.getElem?_cons_zero, List.getElem?_cons_succ, q_bindok, q_ofok, List.set_cons_succ, List.set_cons_zero, q_nextnx, q_nextrt, q_trut, q_truf, q_truSt, q_truSf, p_tup, p_lst, mkLf, mkLt, List.length_cons, List.length_nil, Nat.reduceAdd, Nat.reduceLeDiff, if_true, put_tp, puts1, puts0, put_nm, p_addI, p_subI, p_ltI, p_leI, p_gtI, p_geI, p_lenL, p_lenT, p_ixL, p_ixT, q_lc, q_iseq, q_irng1, q_irng2, seqL, seqT, wipeE, noErr_ok, q_exs0, p_mulI, hmul]
  rw [q_exs1]
  simp only [p_addmI, q_set, q_unp, q_ret, q_exp, q_ife, q_op, q_evs1, q_evs0, q_var, q_con, q_call, q_ite, q_and, q_or, q_not, q_eqo, List.getElem?_cons_zero, List.getElem?_cons_succ, q_bindok, q_ofok, List.set_cons_succ, List.set_cons_zero, q_nextnx, q_nextrt, q_trut, q_truf, q_truSt, q_truSf, p_tup, p_lst, mkLf, mkLt, List.length_cons, List.length_nil, Nat.reduceAdd, Nat.reduceLeDiff, if_true, put_tp, puts1, puts0, put_nm, p_addI, p_subI, p_ltI, p_leI, p_gtI, p_geI, p_lenL, p_lenT, p_ixL, p_ixT, q_lc, q_iseq, q_irng1, q_irng2, seqL, seqT, wipeE, noErr_ok, q_exs0, q_for, w1, hms, e]
  rw [q_exs1, q_set, hown _ rfl rfl]
  simp only [p_addmI, q_set, q_unp, q_ret, q_exp, q_ife, q_op, q_evs1, q_evs0, q_var, q_con, q_call, q_ite, q_and, q_or, q_not, q_eqo, List.getElem?_cons_zero, List.getElem?_cons_succ, q_bindok, q_ofok, List.set_cons_succ, List.set_cons_zero, q_nextnx, q_nextrt, q_trut, q_truf, q_truSt, q_truSf, p_tup, p_lst, mkLf, mkLt, List.length_cons, List.length_nil, Nat.reduceAdd, Nat.reduceLeDiff, if_true, put_tp, puts1, puts0, put_nm, p_addI, p_subI, p_ltI, p_leI, p_gtI, p_geI, p_lenL, p_lenT, p_ixL, p_ixT, q_lc, q_iseq, q_irng1, q_irng2, seqL, seqT, wipeE, noErr_ok, q_exs0]
  rw [q_exs1, q_ret, q_op, q_evs1]
  simp only [q_op, q_evs1, q_evs0, q_var, q_con, List.getElem?_cons_zero, List.getElem?_cons_succ, q_bindok, p_addI, p_addmI, p_int, p_modI, zp, if_true, hb]
  rw [ha _ rfl]
  simp only [p_addmI, q_set, q_unp, q_ret, q_exp, q_ife, q_op, q_evs1, q_evs0, q_var, q_con, q_call, q_ite, q_and, q_or, q_not, q_eqo, List.getElem?_cons_zero, List.getElem?_cons_succ, q_bindok, q_ofok, List.set_cons_succ, List.set_cons_zero, q_nextnx, q_nextrt, q_trut, q_truf, q_truSt, q_truSf, p_tup, p_lst, mkLf, mkLt, List.length_cons, List.length_nil, Nat.reduceAdd, Nat.reduceLeDiff, if_true, put_tp, puts1, puts0, put_nm, p_addI, p_subI, p_ltI, p_leI, p_gtI, p_geI, p_lenL, p_lenT, p_ixL, p_ixT, q_lc, q_iseq, q_irng1, q_irng2, seqL, seqT, wipeE, noErr_ok, q_exs0, q_finrt, szL]
  simp only [gcR, gcOk_app, if_true]
  have : W.rlt st.length (.ref st.length) = false := by simp [W.rlt]
  rw [this]
  rfl
end
end Zv

set_option maxRecDepth 100000
set_option maxHeartbeats 4000000
/-! CtQ: rules made of texts; first_unkind. -/
namespace Zv
open PySem
theorem for_srch {G : Prg} {cl : Cl} {t : Tg} {b : List Sm} {I : Itm} {st : Sto} {α β : Type} {g v : α → W} {p : α → Bool} (E : β → En) (hI : I.at_ = []) : ∀ (xs : List α), (∀ x ∈ xs, ∀ o, ∃ env1, Tg.put t (g x) (E o) = some env1 ∧ ∃ o', exs G cl b env1 st = if p x then .fl (.rt (v x)) st else .fl (.nx (E o')) st) →
    ∀ o, ∃ o', forE G cl t b I (xs.map g) (E o) st = match xs.find? p with
      | some x => .fl (.rt (v x)) st
      | none => .fl (.nx (E o')) st
  | [], _, o => ⟨o, forE_nil (by simp [Itm.chk, hI])⟩
  | x :: xs, h, o => by
    obtain ⟨env1, e1, o1, e2⟩ := h x (by simp) o
    cases hp : p x with
    | true =>
      rw [hp] at e2
      refine ⟨o, ?_⟩
      rw [List.map_cons, forE_ret (by simp [Itm.chk, hI]) e1 e2, List.find?_cons_of_pos hp]
    | false =>
      rw [hp] at e2
      obtain ⟨o', e3⟩ := for_srch E hI xs (fun y hy => h y (by simp [hy])) o1
      refine ⟨o', ?_⟩
      rw [List.map_cons, forE_cons (by simp [Itm.chk, hI]) e1 e2, List.find?_cons_of_neg (by simp [hp])]
      exact e3
theorem q_stroI {G : Prg} {cl : Cl} {env : En} {st st1 : Sto} {e : Ex} {i : Int} (he : ev G cl e env st = .ok (.int i) st1) (hl : i.natAbs.log2 < 1920) : ev G cl (.stro e) env st = .ok (.str (tI i)) st1 := by
  show (ev G cl e env st).bind _ = _
  rw [he]
  show (match fldsOf st1 (.int i) with
    | some (C, _) => (match G.strm C with
      | some f => noErr ((cl f [.int i] st1).bind fun r st2 => (match r with
        | .str z => R.ok (W.str z) st2
        | _ => .stuck))
      | none => .stuck)
    | none => prim .str [.int i] st1) = _
  show prim .str [.int i] st1 = _
  rw [p_str]
  simp only [pFmt, hl, if_true]
  rfl
theorem empty_app2 (x : Str) : (Str.empty ++ x : Str) = x := by
  refine str_inj ?_
  rw [tl_app, tl_emp, List.nil_append]
theorem cancelR {a b c : Rat} (hc : c ≠ 0) (h : a * c = b * c) : a = b := by grind
/-- numbers over one unit -/
def mq (a u : Nat) : Rat := mkRat (a : Int) u
theorem mq_mul {a u : Nat} (hu : 0 < u) : mq a u * (u : Rat) = (a : Rat) := by
  unfold mq
  rw [Rat.mkRat_eq_div]
  have : ((u : Rat)) ≠ 0 := by
    have := Rat.natCast_pos.mpr hu
    grind
  have e : (((a : Nat) : Int) : Rat) = (a : Rat) := rfl
  rw [e]
  exact Rat.div_mul_cancel this
theorem mq_lt {a b u : Nat} (hu : 0 < u) : mq a u < mq b u ↔ a < b := by
  have h : (0 : Rat) < (u : Rat) := Rat.natCast_pos.mpr hu
  rw [← Rat.mul_lt_mul_right h, mq_mul hu, mq_mul hu]
  exact Rat.natCast_lt_natCast
theorem mq_nonneg {a u : Nat} (hu : 0 < u) : 0 ≤ mq a u := by
  have h : (0 : Rat) < (u : Rat) := Rat.natCast_pos.mpr hu
  have e := mq_mul (a := a) hu
  have : (0 : Rat) ≤ (a : Rat) := Rat.natCast_nonneg
  refine Rat.not_lt.mp fun hn => ?_
  have := Rat.mul_lt_mul_of_pos_right hn h
  rw [e] at this
  grind
theorem mq_add {a b u : Nat} (hu : 0 < u) : ((b : Nat) : Rat) + mq a u = mq (b * u + a) u := by
  have h : (0 : Rat) < (u : Rat) := Rat.natCast_pos.mpr hu
  have e1 := mq_mul (a := a) hu
  have e2 := mq_mul (a := b * u + a) hu
  have e3 : (((b * u + a : Nat)) : Rat) = (b : Rat) * (u : Rat) + (a : Rat) := by rw [Rat.natCast_add, Rat.natCast_mul]
  rw [e3] at e2
  have : (((b : Nat) : Rat) + mq a u) * (u : Rat) = mq (b * u + a) u * (u : Rat) := by rw [e2, Rat.add_mul, e1]
  have hne : (u : Rat) ≠ 0 := by grind
  exact cancelR hne this
theorem mq_small {a u B : Nat} (hu : 0 < u) (ha : a < B) (hub : u < B) : (mq a u).num.natAbs < B ∧ (mq a u).den < B := by
  obtain ⟨e1, e2⟩ := num_mk (p := (a : Int)) (q := u) (by omega)
  unfold mq
  refine ⟨?_, ?_⟩
  · rw [e1]
    exact Nat.lt_of_le_of_lt (Int.natAbs_ediv_le_natAbs _ _) (by simpa using ha)
  · rw [e2]
    exact Nat.lt_of_le_of_lt (Nat.div_le_self _ _) hub
/-- the law's own form of a rule: unit, marks of the head, offset -/
structure Sp where
  u : Nat
  ms : List Nat
  s : Nat
def Sp.w (x : Sp) : W := .tup [.int x.u, .vl (x.ms.map N), .int x.s]
def Sp.at (x : Sp) (k : Nat) : Nat := match x.ms[k]? with
  | some m => m
  | none => k * x.u + x.s
structure Sp.Ok (x : Sp) (B : Nat) : Prop where
  u0 : 0 < x.u
  su : x.s ≤ x.u
  asc : x.ms.Pairwise (· < ·)
  last : ∀ m ∈ x.ms, m < x.ms.length * x.u + x.s
  len : x.ms.length ≤ 8
  ub : x.u < B
  mb : ∀ m ∈ x.ms, m < B
def Sp.off (x : Sp) : Rat := mq x.s x.u
def Sp.head (x : Sp) : List Rat := x.ms.map fun m => mq m x.u
def Sp.rl (x : Sp) : Rl := ⟨x.off, x.head, wordsOf x.off x.head⟩
theorem Sp.rl_at {x : Sp} {B : Nat} (h : x.Ok B) (k : Nat) : x.rl.at k = mq (x.at k) x.u := by
  unfold Rl.at Sp.at Sp.rl Sp.head
  simp only [List.getElem?_map]
  cases x.ms[k]? with
  | some m => rfl
  | none =>
    show ((k : Int) : Rat) + mq x.s x.u = _
    exact mq_add h.u0
theorem asc_mk {u : Nat} (hu : 0 < u) : ∀ (ms : List Nat) (a : Rat), (∀ m ∈ ms, a < mq m u) → ms.Pairwise (· < ·) → ascFrom a (ms.map fun m => mq m u)
  | [], _, _, _ => trivial
  | m :: ms, a, h, p => by
    obtain ⟨p1, p2⟩ := List.pairwise_cons.mp p
    exact ⟨h m (by simp), asc_mk hu ms _ (fun n hn => (mq_lt hu).mpr (p1 n hn)) p2⟩
theorem last_mem {a : Rat} : ∀ (xs : List Rat), xs ≠ [] → lastFrom a xs ∈ xs
  | [], h => absurd rfl h
  | [x], _ => by simp [lastFrom]
  | x :: y :: r, _ => by
    have := last_mem (a := x) (y :: r) (by simp)
    show lastFrom x (y :: r) ∈ _
    exact List.mem_cons_of_mem _ this
theorem Sp.Ok.arg {x : Sp} (h : x.Ok (10 ^ 18)) : RulArg (Q x.off) x.off (x.head.map fun q => (Q q, q)) := by
  have hsm : ∀ m, m < 10 ^ 18 → (mq m x.u).num.natAbs < 10 ^ 18 ∧ (mq m x.u).den < 10 ^ 18 := fun m hm => mq_small h.u0 hm h.ub
  have b18 : (10 : Nat) ^ 18 < 2 ^ 60 := by decide
  have hs : x.s < 10 ^ 18 := Nat.lt_of_le_of_lt h.su h.ub
  have e2 : (x.head.map fun q => (Q q, q)).map (·.2) = x.head := by rw [List.map_map]; simp [Function.comp_def]
  have mem : ∀ e ∈ (x.head.map fun q => (Q q, q)), ∃ m ∈ x.ms, e = (Q (mq m x.u), mq m x.u) := fun e he => by
    obtain ⟨q, hq, rfl⟩ := List.mem_map.mp he
    obtain ⟨m, hm, rfl⟩ := List.mem_map.mp hq
    exact ⟨m, hm, rfl⟩
  refine ⟨Num_Q (n := 60) (Nat.lt_trans (hsm _ hs).2 b18) (by decide), mq_nonneg h.u0, ?_, ?_, ?_, ?_, ?_, ?_, hsm _ hs, ?_⟩
  · have h1 : mq x.u x.u = 1 := by
      have e := mq_mul (a := x.u) h.u0
      have hp : (0 : Rat) < (x.u : Rat) := Rat.natCast_pos.mpr h.u0
      have hne : (x.u : Rat) ≠ 0 := by grind
      refine cancelR hne ?_
      rw [e, Rat.one_mul]
    rw [← h1]
    refine Rat.not_lt.mp fun hn => ?_
    have := (mq_lt h.u0).mp hn
    have := h.su
    omega
  · intro e he
    obtain ⟨m, hm, rfl⟩ := mem e he
    exact Num_Q (n := 60) (Nat.lt_trans (hsm _ (h.mb m hm)).2 b18) (by decide)
  · intro e he
    obtain ⟨m, hm, rfl⟩ := mem e he
    exact mq_nonneg h.u0
  · rw [e2]
    refine asc_mk h.u0 x.ms _ (fun m hm => ?_) h.asc
    have := mq_nonneg (a := m) h.u0
    grind
  · intro hne
    rw [e2]
    have hne2 : x.head ≠ [] := fun e => hne (by rw [e]; rfl)
    obtain ⟨m, hm, e⟩ := List.mem_map.mp (last_mem (a := -1) x.head hne2)
    rw [← e]
    have hl : (x.head.map fun q => (Q q, q)).length = x.ms.length := by simp [Sp.head]
    rw [hl]
    have : (((x.ms.length : Nat) : Int) : Rat) + x.off = mq (x.ms.length * x.u + x.s) x.u := mq_add h.u0
    rw [this]
    exact (mq_lt h.u0).mpr (h.last m hm)
  · simpa [Sp.head] using h.len
  · intro e he
    obtain ⟨m, hm, rfl⟩ := mem e he
    exact hsm _ (h.mb m hm)
theorem Sp.Ok.sz {x : Sp} (h : x.Ok (10 ^ 18)) : x.rl.Sz 60 := by
  have b18 : (10 : Nat) ^ 18 < 2 ^ 60 := by decide
  have hsm : ∀ m, m < 10 ^ 18 → Zv.Sz 60 (mq m x.u) := fun m hm => ⟨Nat.lt_trans (mq_small h.u0 hm h.ub).1 b18, Nat.lt_trans (mq_small h.u0 hm h.ub).2 b18⟩
  refine ⟨hsm _ (Nat.lt_of_le_of_lt h.su h.ub), fun q hq => ?_, by simpa [Sp.rl, Sp.head] using h.len⟩
  obtain ⟨m, hm, rfl⟩ := List.mem_map.mp hq
  exact hsm _ (h.mb m hm)
section
variable {G : Prg} (P : Pg G) {st : Sto} {k : Nat}
include P
theorem c_read {off : Rat} {hs : List Rat} (h : RulArg (Q off) off (hs.map fun q => (Q q, q))) : callK G (k + 7) "Rule.read" [.str (wordsOf off hs)] st = .ok (Rl.w ⟨off, hs, wordsOf off hs⟩) st := by
  rw [call_fn P.f_Rule_read rfl rfl, P.k_Rule_read]
  have c1 := c_rulein P (k := k) (st := st) h
  have nn : ∀ S : Sto, pIsN false (Rl.w ⟨off, hs, wordsOf off hs⟩) S = .ok (.bl false) S := fun S => rfl
  simp only [F_Rule_read, start_, List.map_cons, List.map_nil, List.length_cons, List.length_nil, Nat.reduceAdd, Nat.reduceSub, List.replicate, List.cons_append, List.nil_append, List.append_nil, Nat.sub_self]
  rw [q_exs1]
  simp only [q_set, q_unp, q_ret, q_exp, q_ife, q_op, q_evs1, q_evs0, q_var, q_con, q_call, q_ite, q_and, q_or, q_not, q_eqo, List.getElem?_cons_zero, List.getElem?_cons_succ, q_bindok, q_ofok, List.set_cons_succ, List.set_cons_zero, q_nextnx, q_nextrt, q_trut, q_truf, q_truSt, q_truSf, p_tup, p_lst, mkLf, mkLt, List.length_cons, List.length_nil, Nat.reduceAdd, Nat.reduceLeDiff, if_true, put_tp, puts1, puts0, put_nm, p_addI, p_subI, p_ltI, p_leI, p_gtI, p_geI, p_lenL, p_lenT, p_ixL, p_ixT, q_lc, q_iseq, q_irng1, q_irng2, seqL, seqT, wipeE, noErr_ok, q_exs0, q_isi, ty_str, P.i_str_str, c1]
  rw [q_exs1]
  simp only [q_set, q_unp, q_ret, q_exp, q_ife, q_op, q_evs1, q_evs0, q_var, q_con, q_call, q_ite, q_and, q_or, q_not, q_eqo, List.getElem?_cons_zero, List.getElem?_cons_succ, q_bindok, q_ofok, List.set_cons_succ, List.set_cons_zero, q_nextnx, q_nextrt, q_trut, q_truf, q_truSt, q_truSf, p_tup, p_lst, mkLf, mkLt, List.length_cons, List.length_nil, Nat.reduceAdd, Nat.reduceLeDiff, if_true, put_tp, puts1, puts0, put_nm, p_addI, p_subI, p_ltI, p_leI, p_gtI, p_geI, p_lenL, p_lenT, p_ixL, p_ixT, q_lc, q_iseq, q_irng1, q_irng2, seqL, seqT, wipeE, noErr_ok, q_exs0, p_isN, nn]
  rw [q_exs1]
  simp only [q_set, q_unp, q_ret, q_exp, q_ife, q_op, q_evs1, q_evs0, q_var, q_con, q_call, q_ite, q_and, q_or, q_not, q_eqo, List.getElem?_cons_zero, List.getElem?_cons_succ, q_bindok, q_ofok, List.set_cons_succ, List.set_cons_zero, q_nextnx, q_nextrt, q_trut, q_truf, q_truSt, q_truSf, p_tup, p_lst, mkLf, mkLt, List.length_cons, List.length_nil, Nat.reduceAdd, Nat.reduceLeDiff, if_true, put_tp, puts1, puts0, put_nm, p_addI, p_subI, p_ltI, p_leI, p_gtI, p_geI, p_lenL, p_lenT, p_ixL, p_ixT, q_lc, q_iseq, q_irng1, q_irng2, seqL, seqT, wipeE, noErr_ok, q_exs0, q_finrt]
  rw [gc_ok0 rlt_rule]
variable (T : PgP G)
include T
theorem c_common {a b : Nat} (hb : b + 1 < 2 ^ 7900) : callK G (k + 1) "_law_common" [.int a, .int b] st = .ok (.int (Nat.gcd a b)) st := by
  rw [call_fn T.f_common rfl rfl, T.k_common]
  have key : ∀ (n : Nat) (b a : Nat), b < n → whE G (callK G k) (.op .gt [.var 1, .con (.int (0))]) [.unp (.tp [.nm 0, .nm 1]) (.op .tup [.var 1, .op .mod [.op .int [.var 0], .var 1]])] n [some (.int a), some (.int b)] st = .fl (.nx [some (.int (Nat.gcd a b)), some (.int 0)]) st := by
    intro n
    induction n with
    | zero => intro b a h; omega
    | succ n ih =>
      intro b a h
      by_cases hb : b = 0
      · subst hb
        rw [whE_stop (st1 := st) (by simp)]
        simp
      · have hp := Nat.pos_of_ne_zero hb
        rw [whE_step (st1 := st) (st2 := st) (env2 := [some (.int b), some (.int ((a % b : Nat) : Int))])]
        · rw [ih (a % b) b (by have := Nat.mod_lt a hp; omega), Nat.gcd_comm b, ← Nat.gcd_rec, Nat.gcd_comm]
        · simp [hp]
        · simp [hp, szL]
  simp only [F_common25, q_exs1, q_whl, P.fuel, start_, List.map_cons, List.map_nil, List.length_cons, List.length_nil, List.replicate, List.append_nil, Nat.sub_self, Nat.reduceAdd]
  rw [key _ b a (by omega)]
  simp
  rw [gc_ok0 rfl]
theorem c_word {t b : Nat} (hb : 0 < b) (ht : t < 10 ^ 18) (hb2 : b < 10 ^ 18) : callK G (k + 2) "_law_word" [.int t, .int b] st = .ok (.str (tQ (mq t b))) st := by
  rw [call_fn T.f_word rfl rfl, T.k_word]
  have b18 : (10 : Nat) ^ 18 < 2 ^ 60 := by decide
  have cg := c_common P T (k := k) (st := st) (a := t) (b := b) (by
    have : (2 : Nat) ^ 61 ≤ 2 ^ 7900 := Nat.pow_le_pow_right (by decide) (by decide)
    have : (10 : Nat) ^ 18 + 1 < 2 ^ 61 := by decide
    omega)
  obtain ⟨e1, e2⟩ := num_mk (p := (t : Int)) (q := b) (by omega)
  have hg : 0 < Nat.gcd t b := Nat.gcd_pos_of_pos_right _ hb
  have hgl : Nat.gcd t b ≤ b := Nat.gcd_le_right _ hb
  have hd : divOk ((Nat.gcd t b : Nat) : Int) = true := div_ok (n := 60) (by omega) (by simp; omega) (by omega)
  have n1 : (mq t b).num = ((t / Nat.gcd t b : Nat) : Int) := by
    unfold mq
    rw [e1, Int.natAbs_natCast, Int.natCast_ediv]
  have n2 : (mq t b).den = b / Nat.gcd t b := by
    unfold mq
    rw [e2, Int.natAbs_natCast]
  have d1 : ((t : Int) / ((Nat.gcd t b : Nat) : Int)) = ((t / Nat.gcd t b : Nat) : Int) := by rw [Int.natCast_ediv]
  have d2 : ((b : Int) / ((Nat.gcd t b : Nat) : Int)) = ((b / Nat.gcd t b : Nat) : Int) := by rw [Int.natCast_ediv]
  have l1 : (((t / Nat.gcd t b : Nat) : Int)).natAbs.log2 < 1920 := by
    have : t / Nat.gcd t b < 2 ^ 60 := Nat.lt_of_le_of_lt (Nat.div_le_self _ _) (by omega)
    have := log2_lt_of this
    simp only [Int.natAbs_natCast]; omega
  have l2 : (((b / Nat.gcd t b : Nat) : Int)).natAbs.log2 < 1920 := by
    have : b / Nat.gcd t b < 2 ^ 60 := Nat.lt_of_le_of_lt (Nat.div_le_self _ _) (by omega)
    have := log2_lt_of this
    simp only [Int.natAbs_natCast]; omega
  have f1 : ∀ (S : Sto), ev G (callK G (k + 1)) (.op .fdiv [.var 0, .var 2]) [some (.int (t : Int)), some (.int (b : Int)), some (.int ((Nat.gcd t b : Nat) : Int))] S = .ok (.int ((t / Nat.gcd t b : Nat) : Int)) S := fun S => by
    simp only [q_set, q_unp, q_ret, q_exp, q_ife, q_op, q_evs1, q_evs0, q_var, q_con, q_call, q_ite, q_and, q_or, q_not, q_eqo, List.getElem?_cons_zero, List.getElem?_cons_succ, q_bindok, q_ofok, List.set_cons_succ, List.set_cons_zero, q_nextnx, q_nextrt, q_trut, q_truf, q_truSt, q_truSf, p_tup, p_lst, mkLf, mkLt, List.length_cons, List.length_nil, Nat.reduceAdd, Nat.reduceLeDiff, if_true, put_tp, puts1, puts0, put_nm, p_addI, p_subI, p_ltI, p_leI, p_gtI, p_geI, p_lenL, p_lenT, p_ixL, p_ixT, q_lc, q_iseq, q_irng1, q_irng2, seqL, seqT, wipeE, noErr_ok, q_exs0, p_fdivI, hd, d1]
  have f2 : ∀ (S : Sto), ev G (callK G (k + 1)) (.op .fdiv [.var 1, .var 2]) [some (.int (t : Int)), some (.int (b : Int)), some (.int ((Nat.gcd t b : Nat) : Int))] S = .ok (.int ((b / Nat.gcd t b : Nat) : Int)) S := fun S => by
    simp only [q_set, q_unp, q_ret, q_exp, q_ife, q_op, q_evs1, q_evs0, q_var, q_con, q_call, q_ite, q_and, q_or, q_not, q_eqo, List.getElem?_cons_zero, List.getElem?_cons_succ, q_bindok, q_ofok, List.set_cons_succ, List.set_cons_zero, q_nextnx, q_nextrt, q_trut, q_truf, q_truSt, q_truSf, p_tup, p_lst, mkLf, mkLt, List.length_cons, List.length_nil, Nat.reduceAdd, Nat.reduceLeDiff, if_true, put_tp, puts1, puts0, put_nm, p_addI, p_subI, p_ltI, p_leI, p_gtI, p_geI, p_lenL, p_lenT, p_ixL, p_ixT, q_lc, q_iseq, q_irng1, q_irng2, seqL, seqT, wipeE, noErr_ok, q_exs0, p_fdivI, hd, d2]
  have g1 := fun S => q_stroI (f1 S) l1
  have g2 := fun S => q_stroI (f2 S) l2
  simp only [F_word25, start_, List.map_cons, List.map_nil, List.length_cons, List.length_nil, Nat.reduceAdd, Nat.reduceSub, List.replicate, List.cons_append, List.nil_append, List.append_nil, Nat.sub_self]
  rw [q_exs1]
  simp only [q_set, q_unp, q_ret, q_exp, q_ife, q_op, q_evs1, q_evs0, q_var, q_con, q_call, q_ite, q_and, q_or, q_not, q_eqo, List.getElem?_cons_zero, List.getElem?_cons_succ, q_bindok, q_ofok, List.set_cons_succ, List.set_cons_zero, q_nextnx, q_nextrt, q_trut, q_truf, q_truSt, q_truSf, p_tup, p_lst, mkLf, mkLt, List.length_cons, List.length_nil, Nat.reduceAdd, Nat.reduceLeDiff, if_true, put_tp, puts1, puts0, put_nm, p_addI, p_subI, p_ltI, p_leI, p_gtI, p_geI, p_lenL, p_lenT, p_ixL, p_ixT, q_lc, q_iseq, q_irng1, q_irng2, seqL, seqT, wipeE, noErr_ok, q_exs0, cg]
  rw [q_exs1]
  simp only [q_ret, q_ite, q_eqo, q_var, List.getElem?_cons_zero, List.getElem?_cons_succ, q_bindok, eqT_int, Bool.false_eq_true, if_false]
  have hiff : ((Nat.gcd t b : Nat) : Int) = (b : Int) ↔ (mq t b).den = 1 := by
    rw [n2]
    constructor
    · intro e
      have : Nat.gcd t b = b := by omega
      rw [this, Nat.div_self hb]
    · intro e
      have hdv : Nat.gcd t b ∣ b := Nat.gcd_dvd_right _ _
      have := Nat.div_mul_cancel hdv
      rw [e, Nat.one_mul] at this
      omega
  have ln : ∀ m : Nat, m < 10 ^ 18 → (tI (m : Int)).length ≤ 60 := fun m hm => tI_len (by decide) (Nat.lt_trans hm b18)
  by_cases hq : ((Nat.gcd t b : Nat) : Int) = (b : Int)
  · rw [decide_eq_true hq, q_trut, g1]
    simp only [q_ofok, q_nextrt, q_finrt]
    rw [gc_ok0 rfl]
    unfold tQ
    rw [if_pos (hiff.mp hq), n1]
  · rw [decide_eq_false hq, q_truf]
    simp only [q_op, q_evs1, q_evs0, g1, g2, q_bindok, q_con]
    have al : ∀ a b : Str, (a ++ b).length = a.length + b.length := fun a b => by
      show (Str.append a b).cps.size = _
      simp [Str.append, Str.length]
    have sl : (Str.ofString "/").length = 1 := by decide +kernel
    have ha : ∀ (x y : Str) (S : Sto), x.length + y.length ≤ 200 → prim .add [.str x, .str y] S = .ok (.str (x ++ y)) S := fun x y S h => by
      rw [p_add]
      have : x.length + y.length ≤ szL := by simp only [szL]; omega
      simp only [pAdd, this, if_true]
    have la := ln (t / Nat.gcd t b) (Nat.lt_of_le_of_lt (Nat.div_le_self _ _) ht)
    have lb := ln (b / Nat.gcd t b) (Nat.lt_of_le_of_lt (Nat.div_le_self _ _) hb2)
    rw [ha _ _ _ (by rw [sl]; omega)]
    simp only [q_bindok]
    rw [ha _ _ _ (by rw [al, sl]; omega)]
    simp only [q_ofok, q_nextrt, q_finrt]
    rw [gc_ok0 rfl]
    unfold tQ
    rw [if_neg (fun e => hq (hiff.mpr e)), n1, n2, empty_app2]
theorem c_made {x : Sp} (h : x.Ok (10 ^ 18)) : callK G (k + 8) "_law_made" [x.w] st = .ok x.rl.w st := by
  rw [call_fn T.f_made rfl rfl, T.k_made]
  have cr := c_read P (k := k) (st := st) h.arg
  have hs : x.s < 10 ^ 18 := Nat.lt_of_le_of_lt h.su h.ub
  have cw : ∀ m : Nat, m < 10 ^ 18 → callK G (k + 7) "_law_word" [.int (m : Int), .int x.u] st = .ok (.str (tQ (mq m x.u))) st := fun m hm => c_word P T (k := k + 5) h.u0 hm h.ub
  have hlc : ∀ (env : En), 2 < env.length → env[0]? = some (some x.w) → lcE G (callK G (k + 7)) (.nm 2) env [] (.call "_law_word" none [.var 2, .op .ix [.var 0, .con (.int (0))]]) ⟨x.ms.map N, []⟩ (x.ms.map N) [] st = .ok ([] ++ x.ms.map fun m => .str (tQ (mq m x.u))) st := fun env he h0 => by
    refine lcE_map rfl x.ms [] fun m hm => ⟨env.set 2 (some (N m)), rfl, rfl, ?_, rfl⟩
    have g1 : (env.set 2 (some (N m)))[2]? = some (some (N m)) := List.getElem?_set_self he
    have g0 : (env.set 2 (some (N m)))[0]? = some (some x.w) := by rw [List.getElem?_set_ne (by decide)]; exact h0
    simp only [q_call, q_evs1, q_evs0, q_var, g1, g0, q_bindok, q_op, q_con, Sp.w, p_ixT, at0, cw m (h.mb m hm)]
  have hlz : x.ms.length ≤ szL := Nat.le_trans h.len (by decide)
  have hl := h.len
  have hjoin : prim .join [.str (Str.ofString " "), .vl (x.ms.map (fun m => W.str (tQ (mq m x.u))) ++ [.str (Str.ofString "|"), .str (tQ x.off)])] st = .ok (.str (wordsOf x.off x.head)) st := by
    rw [p_join]
    have e1 : x.ms.map (fun m => W.str (tQ (mq m x.u))) ++ [W.str (Str.ofString "|"), .str (tQ x.off)] = ((x.head.map tQ) ++ [Str.ofString "|", tQ x.off]).map W.str := by
      simp [List.map_append, List.map_map, Function.comp_def, Sp.head]
    have e2 : ∀ xs : List Str, allSome W.str? (xs.map W.str) = some xs := by
      intro xs
      induction xs with
      | nil => rfl
      | cons x xs ih => simp [allSome, W.str?, ih]
    have s1 : ∀ es : List Nat, (∀ e ∈ es, e < 10 ^ 18) → (((es.map fun m => mq m x.u).map tQ).map (·.length)).sum ≤ es.length * 200 := by
      intro es
      induction es with
      | nil => intro _; simp
      | cons e es ih =>
        intro he
        have h1 := ih (fun x hx => he x (by simp [hx]))
        have h2 := tQ_len (mq_nonneg (a := e) h.u0) (mq_small h.u0 (he e (by simp)) h.ub)
        simp only [List.map_cons, List.sum_cons, List.length_cons, Nat.add_mul]
        omega
    have s2 := s1 x.ms h.mb
    have s3 := tQ_len (q := x.off) (mq_nonneg h.u0) (mq_small h.u0 hs h.ub)
    have e3 : (Str.ofString "|").length = 1 := by decide +kernel
    have e4 : (Str.ofString " ").length = 1 := by decide +kernel
    have hfit : (((x.head.map tQ ++ [Str.ofString "|", tQ x.off]).map (·.length)).sum + (x.head.map tQ ++ [Str.ofString "|", tQ x.off]).length * (Str.ofString " ").length) ≤ szL := by
      have s2' : ((x.head.map tQ).map (·.length)).sum ≤ x.ms.length * 200 := s2
      have hh : (x.head.map tQ).length = x.ms.length := by simp [Sp.head]
      rw [List.map_append, List.sum_append, List.length_append, e4, hh]
      simp only [List.map_cons, List.map_nil, List.sum_cons, List.sum_nil, e3, List.length_cons, List.length_nil, szL]
      omega
    rw [e1]
    simp only [pJoin, items, e2, hfit, if_true]
    rfl
  have hadd : prim .add [.vl (x.ms.map (fun m => W.str (tQ (mq m x.u)))), .vl [.str (Str.ofString "|"), .str (tQ x.off)]] st = .ok (.vl (x.ms.map (fun m => W.str (tQ (mq m x.u))) ++ [.str (Str.ofString "|"), .str (tQ x.off)])) st := by
    rw [p_add]
    have : (x.ms.map (fun m => W.str (tQ (mq m x.u)))).length + [W.str (Str.ofString "|"), .str (tQ x.off)].length ≤ szL := by simp only [List.length_map, List.length_cons, List.length_nil, szL]; omega
    simp only [pAdd, lstOf, this, if_true]
  have i1 : ∀ S : Sto, prim .ix [x.w, .int 1] S = .ok (.vl (x.ms.map N)) S := fun S => by simp only [Sp.w, p_ixT, at1]
  have i0 : ∀ S : Sto, prim .ix [x.w, .int 0] S = .ok (.int x.u) S := fun S => by simp only [Sp.w, p_ixT, at0]
  have i2 : ∀ S : Sto, prim .ix [x.w, .int 2] S = .ok (.int x.s) S := fun S => by simp only [Sp.w, p_ixT, at2]
  simp only [F_made25, start_, List.map_cons, List.map_nil, List.length_cons, List.length_nil, Nat.reduceAdd, Nat.reduceSub, List.replicate, List.cons_append, List.nil_append, List.append_nil, Nat.sub_self]
  rw [q_exs1]
  simp only [q_set, q_unp, q_ret, q_exp, q_ife, q_op, q_evs1, q_evs0, q_var, q_con, q_call, q_ite, q_and, q_or, q_not, q_eqo, List.getElem?_cons_zero, List.getElem?_cons_succ, q_bindok, q_ofok, List.set_cons_succ, List.set_cons_zero, q_nextnx, q_nextrt, q_trut, q_truf, q_truSt, q_truSf, p_tup, p_lst, mkLf, mkLt, List.length_cons, List.length_nil, Nat.reduceAdd, Nat.reduceLeDiff, if_true, put_tp, puts1, puts0, put_nm, p_addI, p_subI, p_ltI, p_leI, p_gtI, p_geI, p_lenL, p_lenT, p_ixL, p_ixT, q_lc, q_iseq, q_irng1, q_irng2, seqL, seqT, wipeE, noErr_ok, q_exs0, i1, List.length_map, hlz]
  rw [hlc _ (by simp) rfl]
  simp only [q_set, q_unp, q_ret, q_exp, q_ife, q_op, q_evs1, q_evs0, q_var, q_con, q_call, q_ite, q_and, q_or, q_not, q_eqo, List.getElem?_cons_zero, List.getElem?_cons_succ, q_bindok, q_ofok, List.set_cons_succ, List.set_cons_zero, q_nextnx, q_nextrt, q_trut, q_truf, q_truSt, q_truSf, p_tup, p_lst, mkLf, mkLt, List.length_cons, List.length_nil, Nat.reduceAdd, Nat.reduceLeDiff, if_true, put_tp, puts1, puts0, put_nm, p_addI, p_subI, p_ltI, p_leI, p_gtI, p_geI, p_lenL, p_lenT, p_ixL, p_ixT, q_lc, q_iseq, q_irng1, q_irng2, seqL, seqT, wipeE, noErr_ok, q_exs0, List.nil_append]
  rw [q_exs1]
  simp only [q_set, q_unp, q_ret, q_exp, q_ife, q_op, q_evs1, q_evs0, q_var, q_con, q_call, q_ite, q_and, q_or, q_not, q_eqo, List.getElem?_cons_zero, List.getElem?_cons_succ, q_bindok, q_ofok, List.set_cons_succ, List.set_cons_zero, q_nextnx, q_nextrt, q_trut, q_truf, q_truSt, q_truSf, p_tup, p_lst, mkLf, mkLt, List.length_cons, List.length_nil, Nat.reduceAdd, Nat.reduceLeDiff, if_true, put_tp, puts1, puts0, put_nm, p_addI, p_subI, p_ltI, p_leI, p_gtI, p_geI, p_lenL, p_lenT, p_ixL, p_ixT, q_lc, q_iseq, q_irng1, q_irng2, seqL, seqT, wipeE, noErr_ok, q_exs0, q_bm, recvOk, i0, i2, cw x.s hs, szL]
  rw [show tQ (mq x.s x.u) = tQ x.off from rfl, hadd]
  simp only [q_bindok, hjoin, cr, q_ofok, q_nextrt, q_finrt]
  exact gc_ok0 rlt_rule
end
end Zv

set_option maxRecDepth 100000
set_option maxHeartbeats 4000000
/-! CtV: first_unkind. -/
namespace Zv
open PySem
def unk (r o : Rl) (k l : Nat) : Bool := decide (o.at k / o.at l < r.at k / r.at l)
def innr (p : Nat → Nat → Bool) (l : Nat) : Option Nat := (List.range l).find? (fun k => p k l)
def srch (p : Nat → Nat → Bool) (n : Nat) : Option (Nat × Nat) := match (List.range n).find? (fun i => (innr p (i + 1)).isSome) with
  | some i => some ((innr p (i + 1)).getD 0, i + 1)
  | none => none
def resW : Option (Nat × Nat) → W
  | none => .non
  | some (k, l) => .tup [N k, N l]
theorem rlt_res {n : Nat} {x : Option (Nat × Nat)} : W.rlt n (resW x) = true := by
  cases x <;> rfl
/-- two nested loops that look for a pair -/
theorem loops {G : Prg} {cl : Cl} {st : Sto} {p : Nat → Nat → Bool} {a b : W} {cond : Ex} (n : Nat) (hn : n < 2 ^ 60) (hc : ∀ k l : Nat, k < l → l ≤ n → ev G cl cond [some a, some b, some (.int (l : Int)), some (.int (k : Int))] st = .ok (.bl (p k l)) st) :
    ∃ o : Option W × Option W, forE G cl (.nm 2) [.forr (.nm 3) (.rng1 (.var 2)) [.ife cond [.ret (.op .tup [.var 3, .var 2])] []]] ⟨rngW 1 n, []⟩ (rngW 1 n) [some a, some b, none, none] st = match srch p n with
      | some x => .fl (.rt (resW (some x))) st
      | none => .fl (.nx [some a, some b, o.1, o.2]) st := by
  have inner : ∀ (l : Nat) (o : Option W), l ≤ n → ∃ o', forE G cl (.nm 3) [.ife cond [.ret (.op .tup [.var 3, .var 2])] []] ⟨rngW 0 l, []⟩ (rngW 0 l) [some a, some b, some (.int (l : Int)), o] st = match innr p l with
      | some k => .fl (.rt (.tup [N k, N l])) st
      | none => .fl (.nx [some a, some b, some (.int (l : Int)), o']) st := by
    intro l o hl
    obtain ⟨o', e⟩ := for_srch (G := G) (cl := cl) (t := .nm 3) (b := [.ife cond [.ret (.op .tup [.var 3, .var 2])] []]) (I := ⟨rngW 0 l, []⟩) (st := st) (g := fun i : Nat => .int (0 + (i : Int))) (v := fun k => .tup [N k, N l]) (p := fun k => p k l) (fun o : Option W => [some a, some b, some (.int (l : Int)), o]) rfl (List.range l) (fun k hk o => by
      have hk : k < l := List.mem_range.mp hk
      refine ⟨[some a, some b, some (.int (l : Int)), some (.int (0 + (k : Int)))], rfl, some (.int (0 + (k : Int))), ?_⟩
      have z : (0 : Int) + (k : Int) = k := by omega
      rw [q_exs1, q_ife, z, hc k l hk hl]
      cases hp : p k l with
      | true => simp [szL]
      | false => simp) o
    refine ⟨o', Eq.trans e ?_⟩
    unfold innr
    cases (List.range l).find? (fun k => p k l) with
    | some k => rfl
    | none => rfl
  obtain ⟨o', e⟩ := for_srch (G := G) (cl := cl) (t := .nm 2) (b := [.forr (.nm 3) (.rng1 (.var 2)) [.ife cond [.ret (.op .tup [.var 3, .var 2])] []]]) (I := ⟨rngW 1 n, []⟩) (st := st) (g := fun i : Nat => .int (1 + (i : Int))) (v := fun i => .tup [N ((innr p (i + 1)).getD 0), N (i + 1)]) (p := fun i => (innr p (i + 1)).isSome) (fun o : Option W × Option W => [some a, some b, o.1, o.2]) rfl (List.range n) (fun i hi o => by
    have hi : i < n := List.mem_range.mp hi
    obtain ⟨o', e⟩ := inner (i + 1) o.2 (by omega)
    refine ⟨[some a, some b, some (.int (1 + (i : Int))), o.2], rfl, (some (.int ((i + 1 : Nat) : Int)), o'), ?_⟩
    have z : (1 : Int) + (i : Int) = ((i + 1 : Nat) : Int) := by omega
    have hl : inL ((i + 1 : Nat) : Int) = true := by
      unfold inL
      have : (2 : Nat) ^ 60 < 4611686018427387904 := by decide
      exact decide_eq_true (by simp only [Int.natAbs_natCast]; omega)
    rw [q_exs1, q_for, q_irng1, z]
    simp only [q_var, List.getElem?_cons_zero, List.getElem?_cons_succ, q_bindok, rngItm1, hl, if_true, Int.toNat_natCast, q_ofok]
    rw [e]
    cases h : innr p (i + 1) with
    | some k => rfl
    | none => rfl) (none, none)
  refine ⟨o', Eq.trans e ?_⟩
  unfold srch
  cases (List.range n).find? (fun i => (innr p (i + 1)).isSome) with
  | some i => rfl
  | none => rfl
section
variable {G : Prg} (P : Pg G) {st : Sto} {k : Nat}
include P
theorem c_tp {r : Rl} {i j : Nat} (h : r.Sz 60) (hi : i < 2 ^ 11) (hj : j < 2 ^ 11) (hp : 0 < r.at j) : callK G (k + 5) "turning_point" [r.w, .int (i : Int), .int (j : Int)] st = .ok (Q (r.at i / r.at j)) st := by
  rw [call_fn P.f_turning_point rfl rfl, P.k_turning_point]
  have b : (2 : Nat) ^ 11 < 2 ^ 61 := by decide
  have a1 := c_at P (k := k) (st := st) (j := i) h (Nat.lt_trans hi b) (by decide)
  have a2 := c_at P (k := k) (st := st) (j := j) h (Nat.lt_trans hj b) (by decide)
  have c1 := c_over P (k := k + 1) (st := st) hp (h.at_ (m := 10) i hi) (h.at_ (m := 10) j hj) (by decide)
  have hn : 0 < (r.at j).num := num_pos hp
  simp only [F_turning_point, start_, List.map_cons, List.map_nil, List.length_cons, List.length_nil, Nat.reduceAdd, Nat.reduceSub, List.replicate, List.cons_append, List.nil_append, List.append_nil, Nat.sub_self]
  rw [q_exs1]
  simp only [q_set, q_unp, q_ret, q_exp, q_ife, q_op, q_evs1, q_evs0, q_var, q_con, q_call, q_ite, q_and, q_or, q_not, q_eqo, List.getElem?_cons_zero, List.getElem?_cons_succ, q_bindok, q_ofok, List.set_cons_succ, List.set_cons_zero, q_nextnx, q_nextrt, q_trut, q_truf, q_truSt, q_truSf, p_tup, p_lst, mkLf, mkLt, List.length_cons, List.length_nil, Nat.reduceAdd, Nat.reduceLeDiff, if_true, put_tp, puts1, puts0, put_nm, p_addI, p_subI, p_ltI, p_leI, p_gtI, p_geI, p_lenL, p_lenT, p_ixL, p_ixT, q_lc, q_iseq, q_irng1, q_irng2, seqL, seqT, wipeE, noErr_ok, q_exs0, q_meth, fl_rule, lk_at, P.m_at, Option.isNone_none, a1, a2, szL]
  rw [q_exs1]
  simp only [q_set, q_unp, q_ret, q_exp, q_ife, q_op, q_evs1, q_evs0, q_var, q_con, q_call, q_ite, q_and, q_or, q_not, q_eqo, List.getElem?_cons_zero, List.getElem?_cons_succ, q_bindok, q_ofok, List.set_cons_succ, List.set_cons_zero, q_nextnx, q_nextrt, q_trut, q_truf, q_truSt, q_truSf, p_tup, p_lst, mkLf, mkLt, List.length_cons, List.length_nil, Nat.reduceAdd, Nat.reduceLeDiff, if_true, put_tp, puts1, puts0, put_nm, p_addI, p_subI, p_ltI, p_leI, p_gtI, p_geI, p_lenL, p_lenT, p_ixL, p_ixT, q_lc, q_iseq, q_irng1, q_irng2, seqL, seqT, wipeE, noErr_ok, q_exs0, at0, gt_iff_lt, hn, decide_true]
  rw [q_exs1]
  simp only [q_set, q_unp, q_ret, q_exp, q_ife, q_op, q_evs1, q_evs0, q_var, q_con, q_call, q_ite, q_and, q_or, q_not, q_eqo, List.getElem?_cons_zero, List.getElem?_cons_succ, q_bindok, q_ofok, List.set_cons_succ, List.set_cons_zero, q_nextnx, q_nextrt, q_trut, q_truf, q_truSt, q_truSf, p_tup, p_lst, mkLf, mkLt, List.length_cons, List.length_nil, Nat.reduceAdd, Nat.reduceLeDiff, if_true, put_tp, puts1, puts0, put_nm, p_addI, p_subI, p_ltI, p_leI, p_gtI, p_geI, p_lenL, p_lenT, p_ixL, p_ixT, q_lc, q_iseq, q_irng1, q_irng2, seqL, seqT, wipeE, noErr_ok, q_exs0, c1, q_finrt]
  exact gc_ok0 rfl
theorem c_unkind {r o : Rl} (hr : r.Sz 60) (ho : o.Sz 60) (pr : ∀ l, 1 ≤ l → 0 < r.at l) (po : ∀ l, 1 ≤ l → 0 < o.at l) : callK G (k + 6) "first_unkind" [r.w, o.w] st = .ok (resW (srch (unk r o) (max r.head.length o.head.length + 1))) st := by
  rw [call_fn P.f_first_unkind rfl rfl, P.k_first_unkind]
  have l1 := hr.len
  have l2 := ho.len
  have cc : callK G (k + 5) "check_rules" [r.w, o.w] st = .ok .non st := by
    rw [call_fn P.f_check_rules rfl rfl, P.k_check_rules]
    have x1 := c_checkrule P (k := k + 3) (st := st) (r := r)
    have x2 := c_checkrule P (k := k + 3) (st := st) (r := o)
    simp only [F_check_rules, start_, List.map_cons, List.map_nil, List.length_cons, List.length_nil, Nat.reduceAdd, Nat.reduceSub, List.replicate, List.cons_append, List.nil_append, List.append_nil, Nat.sub_self]
    rw [q_exs1]
    simp only [q_set, q_unp, q_ret, q_exp, q_ife, q_op, q_evs1, q_evs0, q_var, q_con, q_call, q_ite, q_and, q_or, q_not, q_eqo, List.getElem?_cons_zero, List.getElem?_cons_succ, q_bindok, q_ofok, List.set_cons_succ, List.set_cons_zero, q_nextnx, q_nextrt, q_trut, q_truf, q_truSt, q_truSf, p_tup, p_lst, mkLf, mkLt, List.length_cons, List.length_nil, Nat.reduceAdd, Nat.reduceLeDiff, if_true, put_tp, puts1, puts0, put_nm, p_addI, p_subI, p_ltI, p_leI, p_gtI, p_geI, p_lenL, p_lenT, p_ixL, p_ixT, q_lc, q_iseq, q_irng1, q_irng2, seqL, seqT, wipeE, noErr_ok, q_exs0, x1]
    rw [q_exs1]
    simp only [q_set, q_unp, q_ret, q_exp, q_ife, q_op, q_evs1, q_evs0, q_var, q_con, q_call, q_ite, q_and, q_or, q_not, q_eqo, List.getElem?_cons_zero, List.getElem?_cons_succ, q_bindok, q_ofok, List.set_cons_succ, List.set_cons_zero, q_nextnx, q_nextrt, q_trut, q_truf, q_truSt, q_truSf, p_tup, p_lst, mkLf, mkLt, List.length_cons, List.length_nil, Nat.reduceAdd, Nat.reduceLeDiff, if_true, put_tp, puts1, puts0, put_nm, p_addI, p_subI, p_ltI, p_leI, p_gtI, p_geI, p_lenL, p_lenT, p_ixL, p_ixT, q_lc, q_iseq, q_irng1, q_irng2, seqL, seqT, wipeE, noErr_ok, q_exs0, x2, q_finnx]
    exact gc_ok0 rfl
  have cond : ∀ i l : Nat, i < l → l ≤ max r.head.length o.head.length + 1 → ev G (callK G (k + 5)) (.call "less" none [.call "turning_point" none [.var 1, .var 3, .var 2], .call "turning_point" none [.var 0, .var 3, .var 2]]) [some r.w, some o.w, some (.int (l : Int)), some (.int (i : Int))] st = .ok (.bl (unk r o i l)) st := by
    intro i l hi hl
    have b1 : i < 2 ^ 11 := by omega
    have b2 : l < 2 ^ 11 := by omega
    have t1 := c_tp P (k := k) (st := st) (i := i) (j := l) hr b1 b2 (pr l (by omega))
    have t2 := c_tp P (k := k) (st := st) (i := i) (j := l) ho b1 b2 (po l (by omega))
    have z := c_less P (k := k + 4) (st := st) (Sz.div (po l (by omega)) (ho.at_ (m := 10) i b1) (ho.at_ (m := 10) l b2)) (Sz.div (pr l (by omega)) (hr.at_ (m := 10) i b1) (hr.at_ (m := 10) l b2)) (by decide)
    simp only [q_set, q_unp, q_ret, q_exp, q_ife, q_op, q_evs1, q_evs0, q_var, q_con, q_call, q_ite, q_and, q_or, q_not, q_eqo, List.getElem?_cons_zero, List.getElem?_cons_succ, q_bindok, q_ofok, List.set_cons_succ, List.set_cons_zero, q_nextnx, q_nextrt, q_trut, q_truf, q_truSt, q_truSf, p_tup, p_lst, mkLf, mkLt, List.length_cons, List.length_nil, Nat.reduceAdd, Nat.reduceLeDiff, if_true, put_tp, puts1, puts0, put_nm, p_addI, p_subI, p_ltI, p_leI, p_gtI, p_geI, p_lenL, p_lenT, p_ixL, p_ixT, q_lc, q_iseq, q_irng1, q_irng2, seqL, seqT, wipeE, noErr_ok, q_exs0, t1, t2, z]
    rfl
  obtain ⟨oo, e⟩ := loops (G := G) (cl := callK G (k + 5)) (st := st) (p := unk r o) (a := r.w) (b := o.w) (max r.head.length o.head.length + 1) (Nat.lt_of_le_of_lt (m := 100) (by omega) (by decide)) cond
  have lh : ∀ (x : Rl) (S : Sto), prim .len [.tup (x.head.map Q)] S = .ok (.int x.head.length) S := fun x S => by rw [p_lenT, List.length_map]
  have it : rngItm2 (.int 1) (.int ((if (o.head.length : Int) > (r.head.length : Int) then (o.head.length : Int) else (r.head.length : Int)) + 2)) st = .ok ⟨rngW 1 (max r.head.length o.head.length + 1), []⟩ st := by
    have hmax : (if (o.head.length : Int) > (r.head.length : Int) then (o.head.length : Int) else (r.head.length : Int)) = ((max r.head.length o.head.length : Nat) : Int) := by
      split <;> omega
    rw [hmax]
    have i1 : inL 1 = true := by decide
    have i2 : inL (((max r.head.length o.head.length : Nat) : Int) + 2) = true := by
      unfold inL
      exact decide_eq_true (by omega)
    have i3 : (((max r.head.length o.head.length : Nat) : Int) + 2 - 1).toNat = max r.head.length o.head.length + 1 := by omega
    simp only [rngItm2, i1, i2, Bool.and_self, if_true, i3]
  simp only [F_first_unkind, start_, List.map_cons, List.map_nil, List.length_cons, List.length_nil, Nat.reduceAdd, Nat.reduceSub, List.replicate, List.cons_append, List.nil_append, List.append_nil, Nat.sub_self]
  rw [q_exs1]
  simp only [q_set, q_unp, q_ret, q_exp, q_ife, q_op, q_evs1, q_evs0, q_var, q_con, q_call, q_ite, q_and, q_or, q_not, q_eqo, List.getElem?_cons_zero, List.getElem?_cons_succ, q_bindok, q_ofok, List.set_cons_succ, List.set_cons_zero, q_nextnx, q_nextrt, q_trut, q_truf, q_truSt, q_truSf, p_tup, p_lst, mkLf, mkLt, List.length_cons, List.length_nil, Nat.reduceAdd, Nat.reduceLeDiff, if_true, put_tp, puts1, puts0, put_nm, p_addI, p_subI, p_ltI, p_leI, p_gtI, p_geI, p_lenL, p_lenT, p_ixL, p_ixT, q_lc, q_iseq, q_irng1, q_irng2, seqL, seqT, wipeE, noErr_ok, q_exs0, cc]
  rw [q_exs1]
  simp only [q_for, q_irng2, q_con, q_bindok, q_op, q_evs1, q_evs0, q_fld, q_var, List.getElem?_cons_zero, List.getElem?_cons_succ, fl_rule, P.fo_head, if_true, lk_head, p_lenT, List.length_map, p_max, p_addI, it, q_ofok]
  rw [e]
  cases h : srch (unk r o) (max r.head.length o.head.length + 1) with
  | some x =>
    simp only [q_nextrt, q_finrt]
    exact gc_ok0 rlt_res
  | none =>
    simp only [q_nextnx]
    rw [q_exs1]
    simp only [q_set, q_unp, q_ret, q_exp, q_ife, q_op, q_evs1, q_evs0, q_var, q_con, q_call, q_ite, q_and, q_or, q_not, q_eqo, List.getElem?_cons_zero, List.getElem?_cons_succ, q_bindok, q_ofok, List.set_cons_succ, List.set_cons_zero, q_nextnx, q_nextrt, q_trut, q_truf, q_truSt, q_truSf, p_tup, p_lst, mkLf, mkLt, List.length_cons, List.length_nil, Nat.reduceAdd, Nat.reduceLeDiff, if_true, put_tp, puts1, puts0, put_nm, p_addI, p_subI, p_ltI, p_leI, p_gtI, p_geI, p_lenL, p_lenT, p_ixL, p_ixT, q_lc, q_iseq, q_irng1, q_irng2, seqL, seqT, wipeE, noErr_ok, q_exs0, q_finrt]
    exact gc_ok0 rfl
end
end Zv

set_option maxRecDepth 100000
set_option maxHeartbeats 4000000
/-! L25a: plain facts for law k25. -/
namespace Zv
open PySem
theorem srch_succ (p : Nat → Nat → Bool) (n : Nat) : srch p (n + 1) = (srch p n).or ((innr p (n + 1)).map fun k => (k, n + 1)) := by
  unfold srch
  rw [List.range_succ, List.find?_append]
  cases h : (List.range n).find? (fun i => (innr p (i + 1)).isSome) with
  | some i => rfl
  | none =>
    rw [Option.none_or]
    cases h2 : innr p (n + 1) with
    | some k => simp [List.find?, h2]
    | none => simp [List.find?, h2]
theorem innr_none {p : Nat → Nat → Bool} {l : Nat} : innr p l = none ↔ ∀ k, k < l → p k l = false := by
  unfold innr
  rw [List.find?_eq_none]
  simp
theorem srch_none {p : Nat → Nat → Bool} : ∀ {n : Nat}, srch p n = none ↔ ∀ l, 1 ≤ l → l ≤ n → ∀ k, k < l → p k l = false
  | 0 => by simp [srch]; intro l h1 h2; omega
  | n + 1 => by
    rw [srch_succ, Option.or_eq_none_iff, srch_none (n := n), Option.map_eq_none_iff, innr_none]
    constructor
    · rintro ⟨h1, h2⟩ l hl hl2 k hk
      by_cases e : l = n + 1
      · subst e; exact h2 k hk
      · exact h1 l hl (by omega) k hk
    · intro h
      exact ⟨fun l hl hl2 k hk => h l hl (by omega) k hk, fun k hk => h (n + 1) (by omega) (Nat.le_refl _) k hk⟩
theorem srch_more {p : Nat → Nat → Bool} {n : Nat} (h : srch p n = none → ∀ l, n < l → ∀ k, k < l → p k l = false) : ∀ m, srch p (n + m) = srch p n
  | 0 => rfl
  | m + 1 => by
    rw [← Nat.add_assoc, srch_succ, srch_more h m]
    cases e : srch p n with
    | some x => rfl
    | none =>
      rw [Option.none_or, innr_none.mpr (h e (n + m + 1) (by omega))]
      rfl
theorem srch_congr {p q : Nat → Nat → Bool} (h : ∀ k l, k < l → p k l = q k l) (n : Nat) : srch p n = srch q n := by
  have e : ∀ l, innr p l = innr q l := fun l => by
    unfold innr
    have : ∀ xs : List Nat, (∀ k ∈ xs, k < l) → xs.find? (fun k => p k l) = xs.find? (fun k => q k l) := by
      intro xs
      induction xs with
      | nil => intro _; rfl
      | cons x xs ih =>
        intro hx
        rw [List.find?_cons, List.find?_cons, h x l (hx x (by simp)), ih (fun k hk => hx k (by simp [hk]))]
    exact this _ (fun k hk => List.mem_range.mp hk)
  unfold srch
  simp only [e]
theorem Sp.Ok.pos {x : Sp} {B : Nat} (h : x.Ok B) {l : Nat} (hl : 1 ≤ l) : 0 < x.at l := by
  unfold Sp.at
  split
  · rename_i m hm
    obtain ⟨h1, h2⟩ := List.getElem?_eq_some_iff.mp hm
    have := List.pairwise_iff_getElem.mp h.asc 0 l (by omega) h1 (by omega)
    omega
  · have := h.u0
    have : 1 * x.u ≤ l * x.u := Nat.mul_le_mul_right _ hl
    omega
theorem Sp.at_ge {x : Sp} {l : Nat} (hl : x.ms.length ≤ l) : x.at l = l * x.u + x.s := by
  unfold Sp.at
  rw [List.getElem?_eq_none hl]
def unkS (x y : Sp) (k l : Nat) : Bool := decide (x.at k * y.at l > y.at k * x.at l)
theorem mq_pos {a u : Nat} (hu : 0 < u) (ha : 0 < a) : 0 < mq a u := by
  have h0 : mq 0 u = 0 := by
    have e := mq_mul (a := 0) hu
    have hp : (0 : Rat) < (u : Rat) := Rat.natCast_pos.mpr hu
    have : ((0 : Nat) : Rat) = 0 := rfl
    rw [this] at e
    grind
  rw [← h0]
  exact (mq_lt hu).mpr ha
theorem div_lt_div {a b c d : Rat} (hb : 0 < b) (hd : 0 < d) : a / b < c / d ↔ a * d < c * b := by
  rw [Rat.div_lt_iff hb]
  have e : c / d * b = (c * b) / d := by rw [Rat.div_def, Rat.div_def]; grind
  rw [e, Rat.lt_div_iff hd]
theorem unk_eq {x y : Sp} {B : Nat} (hx : x.Ok B) (hy : y.Ok B) {k l : Nat} (hkl : k < l) : unk x.rl y.rl k l = unkS x y k l := by
  unfold unk unkS
  rw [Sp.rl_at hx, Sp.rl_at hx, Sp.rl_at hy, Sp.rl_at hy]
  congr 1
  have px := mq_pos hx.u0 (hx.pos (l := l) (by omega))
  have py := mq_pos hy.u0 (hy.pos (l := l) (by omega))
  rw [div_lt_div py px]
  have ux : (0 : Rat) < (x.u : Rat) := Rat.natCast_pos.mpr hx.u0
  have uy : (0 : Rat) < (y.u : Rat) := Rat.natCast_pos.mpr hy.u0
  have uxy := Rat.mul_pos ux uy
  rw [← Rat.mul_lt_mul_right uxy]
  have e1 : mq (y.at k) y.u * mq (x.at l) x.u * ((x.u : Rat) * (y.u : Rat)) = ((y.at k * x.at l : Nat) : Rat) := by
    rw [Rat.natCast_mul, ← mq_mul (a := y.at k) hy.u0, ← mq_mul (a := x.at l) hx.u0]; grind
  have e2 : mq (x.at k) x.u * mq (y.at l) y.u * ((x.u : Rat) * (y.u : Rat)) = ((x.at k * y.at l : Nat) : Rat) := by
    rw [Rat.natCast_mul, ← mq_mul (a := x.at k) hx.u0, ← mq_mul (a := y.at l) hy.u0]; grind
  rw [e1, e2, Rat.natCast_lt_natCast]
theorem nat_le_cancel {a b c : Nat} (hc : 0 < c) (h : a * c ≤ b * c) : a ≤ b := Nat.le_of_mul_le_mul_right h hc
/-- behind both heads nothing new -/
theorem unk_far {x y : Sp} {B : Nat} (hx : x.Ok B) (hy : y.Ok B) {n : Nat} (nx : x.ms.length ≤ n) (ny : y.ms.length ≤ n) (h : srch (unkS x y) (n + 1) = none) : ∀ l, n + 1 < l → ∀ k, k < l → unkS x y k l = false := by
  have H := srch_none.mp h
  have F : ∀ k l, k < l → l ≤ n + 1 → x.at k * y.at l ≤ y.at k * x.at l := fun k l hk hl => by
    have := H l (by omega) hl k hk
    unfold unkS at this
    have := of_decide_eq_false this
    omega
  have xa : ∀ l, n ≤ l → x.at l = l * x.u + x.s := fun l hl => Sp.at_ge (by omega)
  have ya : ∀ l, n ≤ l → y.at l = l * y.u + y.s := fun l hl => Sp.at_ge (by omega)
  have g1 := F n (n + 1) (by omega) (Nat.le_refl _)
  rw [xa n (Nat.le_refl _), xa (n + 1) (by omega), ya n (Nat.le_refl _), ya (n + 1) (by omega)] at g1
  have sv : x.s * y.u ≤ y.s * x.u := by grind
  intro l hl k hk
  unfold unkS
  refine decide_eq_false ?_
  rw [xa l (by omega), ya l (by omega)]
  by_cases hkn : n ≤ k
  · rw [xa k hkn, ya k hkn]
    obtain ⟨d, rfl⟩ : ∃ d, l = k + d := ⟨l - k, by omega⟩
    have := Nat.mul_le_mul_left d sv
    have goal : (k * x.u + x.s) * ((k + d) * y.u + y.s) ≤ (k * y.u + y.s) * ((k + d) * x.u + x.s) := by grind
    omega
  · have g2 := F k n (by omega) (by omega)
    rw [xa n (Nat.le_refl _), ya n (Nat.le_refl _)] at g2
    generalize x.at k = a at *
    generalize y.at k = b at *
    have key : a * y.u ≤ b * x.u := by
      refine Nat.not_lt.mp fun hlt => ?_
      have k1 : b * x.s ≤ a * y.s := by
        refine nat_le_cancel hy.u0 ?_
        have h1 := Nat.mul_le_mul_left b sv
        have h2 := Nat.mul_le_mul_right y.s (Nat.le_of_lt hlt)
        grind
      have k2 : n * (b * x.u) < n * (a * y.u) := Nat.mul_lt_mul_of_pos_left hlt (by omega)
      grind
    obtain ⟨d, rfl⟩ : ∃ d, l = n + d := ⟨l - n, by omega⟩
    have := Nat.mul_le_mul_left d key
    have goal : a * ((n + d) * y.u + y.s) ≤ b * ((n + d) * x.u + x.s) := by grind
    omega
theorem unk_all {x y : Sp} {B : Nat} (hx : x.Ok B) (hy : y.Ok B) : srch (unk x.rl y.rl) (max x.rl.head.length y.rl.head.length + 1) = srch (unkS x y) 24 := by
  have lx : x.rl.head.length = x.ms.length := by simp [Sp.rl, Sp.head]
  have ly : y.rl.head.length = y.ms.length := by simp [Sp.rl, Sp.head]
  have h1 := hx.len
  have h2 := hy.len
  rw [lx, ly, srch_congr (fun k l h => unk_eq hx hy h)]
  obtain ⟨m, hm⟩ : ∃ m, 24 = max x.ms.length y.ms.length + 1 + m := ⟨24 - (max x.ms.length y.ms.length + 1), by omega⟩
  rw [hm]
  exact (srch_more (fun h => unk_far hx hy (by omega) (by omega) h) m).symm
theorem unk_self {x : Sp} {n : Nat} : srch (unkS x x) n = none := srch_none.mpr fun l _ _ k _ => by
  unfold unkS
  simp
/-! ### rules that are drawn -/
def pre (ws : List Nat) (j : Nat) : Nat := (ws.take (j + 1)).sum
theorem pre_lt {s0 : Nat} {ws : List Nat} (hw : ∀ w ∈ ws, 1 ≤ w) {i j : Nat} (hij : i < j) (hj : j < ws.length + 1) : pre (s0 :: ws) i < pre (s0 :: ws) j := by
  unfold pre
  simp only [List.take_succ_cons, List.sum_cons]
  have : ∀ (ws : List Nat), (∀ w ∈ ws, 1 ≤ w) → ∀ i j, i < j → j ≤ ws.length → (ws.take i).sum < (ws.take j).sum := by
    intro ws
    induction ws with
    | nil => intro _ i j h1 h2; simp at h2; omega
    | cons w ws ih =>
      intro hw i j h1 h2
      cases j with
      | zero => omega
      | succ j =>
        cases i with
        | zero =>
          have := hw w (by simp)
          simp only [List.take_zero, List.sum_nil, List.take_succ_cons, List.sum_cons]
          omega
        | succ i =>
          have := ih (fun x hx => hw x (by simp [hx])) i j (by omega) (by simpa using h2)
          simp only [List.take_succ_cons, List.sum_cons]
          omega
  have := this ws hw i j hij (by omega)
  omega
theorem sum_le {B : Nat} : ∀ (ws : List Nat), (∀ w ∈ ws, w ≤ B) → ws.sum ≤ ws.length * B
  | [], _ => by simp
  | w :: ws, h => by
    have := sum_le ws (fun x hx => h x (by simp [hx]))
    have := h w (by simp)
    simp only [List.sum_cons, List.length_cons, Nat.add_mul]
    omega
/-- marks by steps -/
theorem ok_steps {n b s s0 : Nat} {ws : List Nat} (hn : 1 ≤ n) (hn8 : n ≤ 8) (hb : 1 ≤ b) (hb2 : b ≤ 10 ^ 12 + 39) (hs : s ≤ b) (hl : ws.length = n) (hw : ∀ w ∈ ws, 1 ≤ w ∧ w ≤ 1000) (h0 : s0 ≤ 1000) :
    (Sp.mk (b * (s0 :: ws).sum) ((List.range n).map fun j => (n * b + s) * pre (s0 :: ws) j) (s * (s0 :: ws).sum)).Ok (10 ^ 17) ∧ b * (s0 :: ws).sum < 10 ^ 16 := by
  have hsum : (s0 :: ws).sum ≤ 9000 := by
    have := sum_le (B := 1000) (s0 :: ws) (fun w hw' => by
      rcases List.mem_cons.mp hw' with rfl | h
      · exact h0
      · exact (hw w h).2)
    simp only [List.length_cons, hl] at this
    omega
  have hpos : 1 ≤ (s0 :: ws).sum := by
    cases ws with
    | nil => simp at hl; omega
    | cons w r =>
      have := (hw w (by simp)).1
      simp only [List.sum_cons]
      omega
  have hw1 : ∀ w ∈ ws, 1 ≤ w := fun w h => (hw w h).1
  have full : pre (s0 :: ws) n = (s0 :: ws).sum := by
    unfold pre
    rw [List.take_of_length_le (by simp [hl])]
  have top : 0 < n * b + s := by
    have : 1 * 1 ≤ n * b := Nat.mul_le_mul hn hb
    omega
  have hub : b * (s0 :: ws).sum < 10 ^ 16 := by
    have : b * (s0 :: ws).sum ≤ (10 ^ 12 + 39) * 9000 := Nat.mul_le_mul hb2 hsum
    omega
  refine ⟨⟨?_, ?_, ?_, ?_, ?_, by show b * (s0 :: ws).sum < 10 ^ 17; omega, ?_⟩, hub⟩
  · exact Nat.mul_pos hb hpos
  · exact Nat.mul_le_mul_right _ hs
  · refine List.pairwise_iff_getElem.mpr fun i j hi hj hij => ?_
    simp only [List.length_map, List.length_range] at hi hj
    simp only [List.getElem_map, List.getElem_range]
    exact Nat.mul_lt_mul_of_pos_left (pre_lt hw1 hij (by omega)) top
  · intro m hm
    obtain ⟨j, hj, rfl⟩ := List.mem_map.mp hm
    have hj : j < n := List.mem_range.mp hj
    have h1 := pre_lt (s0 := s0) hw1 hj (by omega)
    rw [full] at h1
    have h2 := Nat.mul_lt_mul_of_pos_left h1 top
    show _ < ((List.range n).map _).length * (b * (s0 :: ws).sum) + s * (s0 :: ws).sum
    rw [List.length_map, List.length_range]
    have : (n * b + s) * (s0 :: ws).sum = n * (b * (s0 :: ws).sum) + s * (s0 :: ws).sum := by grind
    omega
  · show ((List.range n).map _).length ≤ 8
    simpa using hn8
  · intro m hm
    obtain ⟨j, hj, rfl⟩ := List.mem_map.mp hm
    have hj : j < n := List.mem_range.mp hj
    have h1 := pre_lt (s0 := s0) hw1 hj (by omega)
    rw [full] at h1
    have h3 : n * b + s ≤ 9 * (10 ^ 12 + 39) := by
      have : n * b ≤ 8 * (10 ^ 12 + 39) := Nat.mul_le_mul hn8 hb2
      omega
    have : (n * b + s) * pre (s0 :: ws) j ≤ 9 * (10 ^ 12 + 39) * 9000 := Nat.mul_le_mul h3 (by omega)
    omega
/-- one mark otherwise -/
theorem ok_set {x : Sp} {B : Nat} (h : x.Ok B) {i m : Nat} (hi : i < x.ms.length) (lo : ∀ j (hj : j < x.ms.length), j < i → x.ms[j] < m) (hi2 : ∀ j (hj : j < x.ms.length), i < j → m < x.ms[j]) (la : m < x.ms.length * x.u + x.s) (mb : m < B) : (Sp.mk x.u (x.ms.set i m) x.s).Ok B := by
  refine ⟨h.u0, h.su, ?_, ?_, by simpa using h.len, h.ub, ?_⟩
  · refine List.pairwise_iff_getElem.mpr fun a b ha hb hab => ?_
    simp only [List.length_set] at ha hb
    have := List.pairwise_iff_getElem.mp h.asc a b ha hb hab
    rw [List.getElem_set, List.getElem_set]
    split
    · rename_i e
      subst e
      rw [if_neg (by omega)]
      exact hi2 b hb hab
    · split
      · rename_i e
        subst e
        exact lo a ha hab
      · exact this
  · intro z hz
    rw [List.length_set]
    rcases List.mem_or_eq_of_mem_set hz with hz | rfl
    · exact h.last z hz
    · exact la
  · intro z hz
    rcases List.mem_or_eq_of_mem_set hz with hz | rfl
    · exact h.mb z hz
    · exact mb
end Zv

set_option maxRecDepth 100000
set_option maxHeartbeats 8000000
/-! L25b: the law's own defs. -/
namespace Zv
open PySem
def F_rule25 : FnC := { np := 2, star := false, ns := 14, body := [.set 2 (.call "_law_pick" none [.var 0, .op (.lst false) [.con (.int (0)), .con (.int (0)), .con (.int (1)), .con (.int (1)), .con (.int (2)), .con (.int (3)), .con (.int (5)), .con (.int (8))]]), .set 3 (.call "_law_pick" none [.var 0, .var 1]), .set 4 (.call "_law_pick" none [.var 0, .op (.lst false) [.con (.int (0)), .var 3, .op .fdiv [.var 3, .con (.int (2))], .call "_law_draw" none [.var 0, .op .add [.op .min2 [.var 3, .op .pow [.con (.int (10)), .con (.int (6))]], .con (.int (1))]]]]), .unp (.tp [.nm 5, .nm 6]) (.op .tup [.call "_law_pick" none [.var 0, .op (.lst false) [.con (.int (1)), .con (.int (2)), .con (.int (5)), .con (.int (1000))]], .call "_law_draw" none [.var 0, .con (.int (4))]]), .ife (.eqo false (.var 2) (.con (.int (0)))) [.ret (.op .tup [.var 3, .op (.lst false) [], .var 4])] [], .ife (.op .gt [.var 6, .con (.int (0))]) [.set 7 (.op .add [.op (.lst false) [.call "_law_draw" none [.var 0, .op .add [.var 5, .con (.int (1))]]], .lc false (.nm 8) [8] (.rng1 (.var 2)) [] (.op .add [.con (.int (1)), .call "_law_draw" none [.var 0, .var 5]])]), .unp (.tp [.nm 9, .nm 10]) (.op .tup [.op .sum [.var 7], .op .add [.op .mul [.var 2, .var 3], .var 4]]), .ret (.op .tup [.op .mul [.var 3, .var 9], .lc false (.nm 11) [11] (.rng1 (.var 2)) [] (.op .mul [.var 10, .op .sum [.op (.slc false true) [.var 7, .op .add [.var 11, .con (.int (1))]]]]), .op .mul [.var 4, .var 9]])] [], .set 12 (.lc true (.nm 11) [11] (.rng1 (.var 2)) [] (.op .mul [.con (.int (2)), .op .addm [.op .mul [.var 3, .var 11], .var 4]])), .unp (.tp [.nm 11, .nm 13]) (.op .tup [.call "_law_draw" none [.var 0, .var 2], .call "_law_pick" none [.var 0, .op (.lst false) [.con (.int (1)), .var 3, .op .sub [.op .mul [.con (.int (2)), .var 3], .con (.int (1))]]]]), .sub (.var 12) (.var 11) (.op .max2 [.con (.int (0)), .op .add [.op .ix [.var 12, .var 11], .op .mul [.var 13, .call "_law_pick" none [.var 0, .op (.lst false) [.con (.int (1)), .op .neg [.con (.int (1))]]]]]]), .ret (.op .tup [.op .mul [.con (.int (2)), .var 3], .var 12, .op .mul [.con (.int (2)), .var 4]])] }
def F_at25 : FnC := { np := 2, star := false, ns := 2, body := [.ret (.ite (.op .lt [.var 1, .op .len [.op .ix [.var 0, .con (.int (1))]]]) (.op .ix [.op .ix [.var 0, .con (.int (1))], .var 1]) (.op .add [.op .mul [.var 1, .op .ix [.var 0, .con (.int (0))]], .op .ix [.var 0, .con (.int (2))]]))] }
def F_due25 : FnC := { np := 2, star := false, ns := 4, body := [.forr (.nm 2) (.rng2 (.con (.int (1))) (.con (.int (25)))) [.forr (.nm 3) (.rng1 (.var 2)) [.ife (.op .gt [.op .mul [.call "_law_at" none [.var 0, .var 3], .call "_law_at" none [.var 1, .var 2]], .op .mul [.call "_law_at" none [.var 1, .var 3], .call "_law_at" none [.var 0, .var 2]]]) [.ret (.op .tup [.var 3, .var 2])] []]], .ret (.con (.non))] }
structure PgC (G : Prg) : Prop extends PgP G where
  f_rule : G.fn "_law_rule" = some F_rule25
  f_at : G.fn "_law_at" = some F_at25
  f_due : G.fn "_law_due" = some F_due25
  k_rule : G.keep "_law_rule" = false
  k_at : G.keep "_law_at" = false
  k_due : G.keep "_law_due" = false
theorem gcOk_setapp {n : Nat} {o : Ob} (ho : o.rlt n = true) : ∀ (S : Sto) (i : Nat) (g : Sto), gcOk n S (S.set i o ++ g) = true
  | [], _, _ => rfl
  | p :: r, 0, g => by simp [gcOk, ho, gcOk_app]
  | p :: r, i + 1, g => by simp [gcOk, Ob.beq_refl, gcOk_setapp ho r i g]
theorem gc_pool {b : Bool} {S g : Sto} {i : Nat} {o : Ob} {w : W} (ho : o.rlt S.length = true) (h : w.rlt S.length = true) : gcR b S (.ok w (S.set i o ++ g)) = .ok w (S.set i o) := by
  have e : (S.set i o ++ g).take S.length = S.set i o := by rw [List.take_append_of_le_length (by simp), List.take_of_length_le (by simp)]
  simp only [gcR, gcOk_setapp ho, if_true, e]
  cases b with
  | true => simp [h]
  | false => simp [frz_pur h]
theorem allSome_frz {n d : Nat} {S : Sto} : ∀ {xs : List W}, (∀ x ∈ xs, x.rlt n = true) → allSome (frzW n S (d + 1)) xs = some xs
  | [], _ => rfl
  | x :: xs, h => by
    have h2 : allSome (frzW n S (d + 1)) xs = some xs := allSome_frz (fun y hy => h y (List.mem_cons_of_mem _ hy))
    simp only [allSome, frz_pur (h x (by simp)), h2]
theorem gc_tref {S : Sto} {i : Nat} {o : Ob} {a c : W} {xs : List W} (ho : o.rlt S.length = true) (ha : a.rlt S.length = true) (hc : c.rlt S.length = true) (hx : ∀ x ∈ xs, x.rlt S.length = true) : gcR false S (.ok (.tup [a, .ref S.length, c]) (S.set i o ++ [.lst xs])) = .ok (.tup [a, .vl xs, c]) (S.set i o) := by
  have e : (S.set i o ++ [Ob.lst xs]).take S.length = S.set i o := by rw [List.take_append_of_le_length (by simp), List.take_of_length_le (by simp)]
  have er : frzW S.length (S.set i o ++ [Ob.lst xs]) 4 (.ref S.length) = some (.vl xs) := by
    unfold frzW
    have : W.rlt S.length (.ref S.length) = false := by simp [W.rlt]
    rw [this]
    have g : (S.set i o ++ [Ob.lst xs])[S.length]? = some (.lst xs) := by rw [List.getElem?_append_right (by simp)]; simp
    simp [g, allSome_frz hx]
  have et : frzW S.length (S.set i o ++ [Ob.lst xs]) 5 (.tup [a, .ref S.length, c]) = some (.tup [a, .vl xs, c]) := by
    unfold frzW
    have : W.rlt S.length (.tup [a, .ref S.length, c]) = false := by simp [W.rlt, W.rlts]
    rw [this]
    simp [allSome, er, frz_pur ha, frz_pur hc]
  simp only [gcR, gcOk_setapp ho, if_true, e, et]
  rfl
theorem pk_rlt {tk : List W} {d n : Nat} (h : Pk tk d) : (Ob.lst tk).rlt n = true := by
  obtain ⟨a, b, c, rfl, _, _⟩ := h
  rfl
theorem mulOkN {a b : Nat} (ha : a < 2 ^ 400000) (hb : b < 2 ^ 400000) : mulOk (a : Int) (b : Int) = true := mul_ok (n := 400000) (m := 400000) (by simpa using ha) (by simpa using hb) (by decide)
theorem small400 {a n : Nat} (h : a < 2 ^ n) (hn : n ≤ 400000) : a < 2 ^ 400000 := pow_le h hn
theorem cut_N {ns : List Nat} {j : Nat} : cutW (ns.map N) none (some ((j : Int))) = (ns.take j).map N := by
  unfold cutW
  have s1 : HT.sIx (ns.map N).length 0 none = 0 := rfl
  have s2 : HT.sIx (ns.map N).length (ns.map N).length (some (j : Int)) = min j ns.length := by
    simp [HT.sIx]
    omega
  rw [s1, s2, List.drop_zero, Nat.sub_zero, ← List.map_take]
  congr 1
  rw [List.take_eq_take_iff]
  omega
section
variable {G : Prg} (P : Pg G) (T : PgC G) {st : Sto} {k : Nat}
include P T
theorem c_at25 {x : Sp} {j : Nat} (hj : j < 100) (hu : x.u < 2 ^ 100) : callK G (k + 1) "_law_at" [x.w, .int (j : Int)] st = .ok (N (x.at j)) st := by
  rw [call_fn T.f_at rfl rfl, T.k_at]
  have i1 : ∀ S : Sto, prim .ix [x.w, .int 1] S = .ok (.vl (x.ms.map N)) S := fun S => by simp only [Sp.w, p_ixT, at1]
  have i0 : ∀ S : Sto, prim .ix [x.w, .int 0] S = .ok (.int x.u) S := fun S => by simp only [Sp.w, p_ixT, at0]
  have i2 : ∀ S : Sto, prim .ix [x.w, .int 2] S = .ok (.int x.s) S := fun S => by simp only [Sp.w, p_ixT, at2]
  have hm : mulOk (j : Int) (x.u : Int) = true := mulOkN (small400 (n := 100) (Nat.lt_trans hj (by decide)) (by decide)) (small400 hu (by decide))
  simp only [F_at25, start_, List.map_cons, List.map_nil, List.length_cons, List.length_nil, Nat.reduceAdd, Nat.reduceSub, List.replicate, List.cons_append, List.nil_append, List.append_nil, Nat.sub_self]
  rw [q_exs1]
  by_cases hl : j < x.ms.length
  · have h' : (j : Int) < (x.ms.length : Int) := by omega
    have e : L2.atI (x.ms.map N) (j : Int) = some (N x.ms[j]) := by
      rw [at_nat (by simpa using hl), List.getElem?_map, List.getElem?_eq_getElem hl]; rfl
    have e2 : x.at j = x.ms[j] := by unfold Sp.at; rw [List.getElem?_eq_getElem hl]
    simp only [q_set, q_unp, q_ret, q_exp, q_ife, q_op, q_evs1, q_evs0, q_var, q_con, q_call, q_ite, q_and, q_or, q_not, q_eqo, List.getElem?_cons_zero, List.getElem?_cons_succ, q_bindok, q_ofok, List.set_cons_succ, List.set_cons_zero, q_nextnx, q_nextrt, q_trut, q_truf, q_truSt, q_truSf, p_tup, p_lst, mkLf, mkLt, List.length_cons, List.length_nil, Nat.reduceAdd, Nat.reduceLeDiff, if_true, put_tp, puts1, puts0, put_nm, p_addI, p_subI, p_ltI, p_leI, p_gtI, p_geI, p_lenL, p_lenT, p_ixL, p_ixT, q_lc, q_iseq, q_irng1, q_irng2, seqL, seqT, wipeE, noErr_ok, q_exs0, i1, List.length_map, h', decide_true, e, q_finrt]
    rw [gc_ok0 rfl, e2]
  · have h' : ¬ ((j : Int) < (x.ms.length : Int)) := by omega
    simp only [q_set, q_unp, q_ret, q_exp, q_ife, q_op, q_evs1, q_evs0, q_var, q_con, q_call, q_ite, q_and, q_or, q_not, q_eqo, List.getElem?_cons_zero, List.getElem?_cons_succ, q_bindok, q_ofok, List.set_cons_succ, List.set_cons_zero, q_nextnx, q_nextrt, q_trut, q_truf, q_truSt, q_truSf, p_tup, p_lst, mkLf, mkLt, List.length_cons, List.length_nil, Nat.reduceAdd, Nat.reduceLeDiff, if_true, put_tp, puts1, puts0, put_nm, p_addI, p_subI, p_ltI, p_leI, p_gtI, p_geI, p_lenL, p_lenT, p_ixL, p_ixT, q_lc, q_iseq, q_irng1, q_irng2, seqL, seqT, wipeE, noErr_ok, q_exs0, i0, i1, i2, List.length_map, h', decide_false, p_mulI, hm, q_finrt]
    rw [gc_ok0 rfl, Sp.at_ge (by omega)]
    show R.ok (W.int _) st = .ok (.int _) st
    congr 2
theorem at_bound {x : Sp} {B j : Nat} (h : x.Ok B) (hj : j < 100) (hB : B ≤ 10 ^ 18) : x.at j < 2 ^ 100 := by
  unfold Sp.at
  split
  · rename_i m hm
    have := h.mb m (List.mem_of_getElem? hm)
    have : (10 : Nat) ^ 18 < 2 ^ 100 := by decide
    omega
  · have h1 := h.ub
    have h2 := h.su
    have : j * x.u ≤ 100 * x.u := Nat.mul_le_mul_right _ (by omega)
    have : (10 : Nat) ^ 18 * 101 < 2 ^ 100 := by decide
    omega
theorem c_due25 {x y : Sp} (hx : x.Ok (10 ^ 18)) (hy : y.Ok (10 ^ 18)) : callK G (k + 2) "_law_due" [x.w, y.w] st = .ok (resW (srch (unkS x y) 24)) st := by
  rw [call_fn T.f_due rfl rfl, T.k_due]
  have b : ∀ {z : Sp}, z.Ok (10 ^ 18) → z.u < 2 ^ 100 := fun h => Nat.lt_trans h.ub (by decide)
  have cond : ∀ i l : Nat, i < l → l ≤ 24 → ev G (callK G (k + 1)) (.op .gt [.op .mul [.call "_law_at" none [.var 0, .var 3], .call "_law_at" none [.var 1, .var 2]], .op .mul [.call "_law_at" none [.var 1, .var 3], .call "_law_at" none [.var 0, .var 2]]]) [some x.w, some y.w, some (.int (l : Int)), some (.int (i : Int))] st = .ok (.bl (unkS x y i l)) st := by
    intro i l hi hl
    have a1 := c_at25 P T (k := k) (st := st) (x := x) (j := i) (by omega) (b hx)
    have a2 := c_at25 P T (k := k) (st := st) (x := x) (j := l) (by omega) (b hx)
    have a3 := c_at25 P T (k := k) (st := st) (x := y) (j := i) (by omega) (b hy)
    have a4 := c_at25 P T (k := k) (st := st) (x := y) (j := l) (by omega) (b hy)
    have m1 := mulOkN (small400 (at_bound P T hx (j := i) (by omega) (Nat.le_refl _)) (by decide)) (small400 (at_bound P T hy (j := l) (by omega) (Nat.le_refl _)) (by decide))
    have m2 := mulOkN (small400 (at_bound P T hy (j := i) (by omega) (Nat.le_refl _)) (by decide)) (small400 (at_bound P T hx (j := l) (by omega) (Nat.le_refl _)) (by decide))
    simp only [q_set, q_unp, q_ret, q_exp, q_ife, q_op, q_evs1, q_evs0, q_var, q_con, q_call, q_ite, q_and, q_or, q_not, q_eqo, List.getElem?_cons_zero, List.getElem?_cons_succ, q_bindok, q_ofok, List.set_cons_succ, List.set_cons_zero, q_nextnx, q_nextrt, q_trut, q_truf, q_truSt, q_truSf, p_tup, p_lst, mkLf, mkLt, List.length_cons, List.length_nil, Nat.reduceAdd, Nat.reduceLeDiff, if_true, put_tp, puts1, puts0, put_nm, p_addI, p_subI, p_ltI, p_leI, p_gtI, p_geI, p_lenL, p_lenT, p_ixL, p_ixT, q_lc, q_iseq, q_irng1, q_irng2, seqL, seqT, wipeE, noErr_ok, q_exs0, a1, a2, a3, a4, p_mulI, m1, m2]
    unfold unkS
    congr 3
    simp only [gt_iff_lt, eq_iff_iff]
    rw [← Int.natCast_mul, ← Int.natCast_mul, Int.ofNat_lt]
  obtain ⟨oo, e⟩ := loops (G := G) (cl := callK G (k + 1)) (st := st) (p := unkS x y) (a := x.w) (b := y.w) 24 (by decide) cond
  have it : rngItm2 (.int 1) (.int 25) st = .ok ⟨rngW 1 24, []⟩ st := by
    have i1 : inL 1 = true := by decide
    have i2 : inL 25 = true := by decide
    simp only [rngItm2, i1, i2, Bool.and_self, if_true]
    rfl
  simp only [F_due25, start_, List.map_cons, List.map_nil, List.length_cons, List.length_nil, Nat.reduceAdd, Nat.reduceSub, List.replicate, List.cons_append, List.nil_append, List.append_nil, Nat.sub_self]
  rw [q_exs1]
  simp only [q_for, q_irng2, q_con, q_bindok, it, q_ofok]
  rw [e]
  cases h : srch (unkS x y) 24 with
  | some z =>
    simp only [q_nextrt, q_finrt]
    exact gc_ok0 rlt_res
  | none =>
    simp only [q_nextnx]
    rw [q_exs1]
    simp only [q_set, q_unp, q_ret, q_exp, q_ife, q_op, q_evs1, q_evs0, q_var, q_con, q_call, q_ite, q_and, q_or, q_not, q_eqo, List.getElem?_cons_zero, List.getElem?_cons_succ, q_bindok, q_ofok, List.set_cons_succ, List.set_cons_zero, q_nextnx, q_nextrt, q_trut, q_truf, q_truSt, q_truSf, p_tup, p_lst, mkLf, mkLt, List.length_cons, List.length_nil, Nat.reduceAdd, Nat.reduceLeDiff, if_true, put_tp, puts1, puts0, put_nm, p_addI, p_subI, p_ltI, p_leI, p_gtI, p_geI, p_lenL, p_lenT, p_ixL, p_ixT, q_lc, q_iseq, q_irng1, q_irng2, seqL, seqT, wipeE, noErr_ok, q_exs0, q_finrt]
    exact gc_ok0 rfl
/-- draws in a comprehension -/
theorem lc_draws {i wide : Nat} {env : En} (hi : i < st.length) (hw : 0 < wide) (hw2 : wide ≤ 1000) (e0 : env[0]? = some (some (.ref i))) (e5 : env[5]? = some (some (.int (wide : Int)))) (I : Itm) (hI : I.at_ = []) :
    ∀ (xs : List Nat) (acc : List W) (tk : List W) (d : Nat), Pk tk d → d + xs.length < 2 ^ 64 → ∃ (ws : List Nat) (tk' : List W), ws.length = xs.length ∧ (∀ w ∈ ws, 1 ≤ w ∧ w ≤ 1000) ∧ Pk tk' (d + xs.length) ∧
      lcE G (callK G (k + 1)) (.nm 8) env [] (.op .add [.con (.int (1)), .call "_law_draw" none [.var 0, .var 5]]) I (xs.map fun j : Nat => .int (0 + (j : Int))) acc (st.set i (.lst tk)) = .ok (acc ++ ws.map N) (st.set i (.lst tk'))
  | [], acc, tk, d, ht, _ => ⟨[], tk, rfl, by simp, ht, by simp [lcE, lcRun, Itm.chk, hI]⟩
  | x :: xs, acc, tk, d, ht, hd => by
    simp only [List.length_cons] at hd
    obtain ⟨r, tk1, h1, h2, h3⟩ := c_draw T.toPgP (k := k) hi ht (by omega) hw (Nat.lt_of_le_of_lt hw2 (by decide +kernel))
    obtain ⟨ws, tk', g1, g2, g3, g4⟩ := lc_draws hi hw hw2 e0 e5 I hI xs (acc ++ [N (r + 1)]) tk1 (d + 1) h2 (by omega)
    refine ⟨(r + 1) :: ws, tk', by simp [g1], ?_, g3.mono (by simp; omega), ?_⟩
    · intro w hw'
      rcases List.mem_cons.mp hw' with rfl | h
      · omega
      · exact g2 w h
    · have v0 : (env.set 8 (some (W.int (0 + (x : Int)))))[0]? = some (some (.ref i)) := by rw [List.getElem?_set_ne (by decide)]; exact e0
      have v5 : (env.set 8 (some (W.int (0 + (x : Int)))))[5]? = some (some (.int (wide : Int))) := by rw [List.getElem?_set_ne (by decide)]; exact e5
      have ec : (1 : Int) + (r : Int) = ((r + 1 : Nat) : Int) := by omega
      have eb : lcBody (.nm 8) env (fun env' st2 => evC G (callK G (k + 1)) [] env' st2) (fun env' st3 => ev G (callK G (k + 1)) (.op .add [.con (.int (1)), .call "_law_draw" none [.var 0, .var 5]]) env' st3) (.int (0 + (x : Int))) (st.set i (.lst tk)) = .ok (some (N (r + 1))) (st.set i (.lst tk1)) := by
        simp only [lcBody, put_nm, q_evC0, q_bindok, if_true, q_op, q_evs1, q_evs0, q_con, q_call, q_var, v0, v5, h3, p_addI, ec]
        have := gc_set (b := true) (st := st.set i (.lst tk)) (i := i) (o := .lst tk1) (w := N (r + 1)) (by rw [List.length_set]; exact pk_rlt h2) rfl
        rw [List.set_set] at this
        rw [this]
        rfl
      rw [List.map_cons]
      unfold lcE at g4 ⊢
      simp only [lcRun, Itm.chk, hI, List.all_nil, if_true, eb, q_bindok]
      rw [g4]
      simp
end
end Zv

set_option maxRecDepth 100000
set_option maxHeartbeats 8000000
/-! L25c: the law's drawn rules. -/
namespace Zv
open PySem
theorem pow6 {S : Sto} : prim .pow [.int 10, .int 6] S = .ok (.int ((1000000 : Nat) : Int)) S := by
  rw [p_powI]
  rfl
theorem rngI1 {S : Sto} {n : Nat} (hn : n < 1000) : rngItm1 (.int (n : Int)) S = .ok ⟨(List.range n).map fun j : Nat => .int (0 + (j : Int)), []⟩ S := by
  have : inL (n : Int) = true := by
    unfold inL
    exact decide_eq_true (by omega)
  simp only [rngItm1, this, if_true, Int.toNat_natCast]
  rfl
/-- a comprehension without draws over a range -/
theorem lc_rng {G : Prg} {cl : Cl} {S : Sto} {env : En} {s : Nat} {e : Ex} {f : Nat → W} {n : Nat} (hf : ∀ j, j < n → ev G cl e (env.set s (some (.int (0 + (j : Int))))) S = .ok (f j) S) (hr : ∀ j, (f j).rlt S.length = true) : lcE G cl (.nm s) env [] e ⟨(List.range n).map fun j : Nat => .int (0 + (j : Int)), []⟩ ((List.range n).map fun j : Nat => .int (0 + (j : Int))) [] S = .ok ([] ++ (List.range n).map f) S :=
  lcE_map rfl (List.range n) [] fun j hj => ⟨env.set s (some (.int (0 + (j : Int)))), rfl, rfl, hf j (List.mem_range.mp hj), hr j⟩
/-- a row of marks, one moved -/
theorem ok_row {n b s : Nat} (hn : 1 ≤ n) (hn8 : n ≤ 8) (hb : 1 ≤ b) (hb2 : b ≤ 10 ^ 12 + 39) (hs : s ≤ b) : (Sp.mk (2 * b) ((List.range n).map fun j => 2 * (b * j + s)) (2 * s)).Ok (10 ^ 17) := by
  refine ⟨by show 0 < 2 * b; omega, by show 2 * s ≤ 2 * b; omega, ?_, ?_, ?_, by show 2 * b < 10 ^ 17; omega, ?_⟩
  · refine List.pairwise_iff_getElem.mpr fun i j hi hj hij => ?_
    simp only [List.getElem_map, List.getElem_range]
    have := Nat.mul_lt_mul_of_pos_left hij hb
    omega
  · intro m hm
    obtain ⟨j, hj, rfl⟩ := List.mem_map.mp hm
    have hj : j < n := List.mem_range.mp hj
    show _ < ((List.range n).map _).length * (2 * b) + 2 * s
    rw [List.length_map, List.length_range]
    have h1 : b * (j + 1) ≤ b * n := Nat.mul_le_mul_left _ hj
    have h2 : n * (2 * b) = 2 * (b * n) := by grind
    rw [Nat.mul_add] at h1
    omega
  · show ((List.range n).map _).length ≤ 8
    simpa using hn8
  · intro m hm
    obtain ⟨j, hj, rfl⟩ := List.mem_map.mp hm
    have hj : j < n := List.mem_range.mp hj
    have : b * j ≤ (10 ^ 12 + 39) * 8 := Nat.mul_le_mul hb2 (by omega)
    omega
theorem ok_moved {n b s i step : Nat} {neg : Bool} (hn8 : n ≤ 8) (hb : 1 ≤ b) (hb2 : b ≤ 10 ^ 12 + 39) (hs : s ≤ b) (hi : i < n) (h1 : 1 ≤ step) (h2 : step ≤ 2 * b - 1) :
    (Sp.mk (2 * b) (((List.range n).map fun j => 2 * (b * j + s)).set i (if neg then 2 * (b * i + s) - step else 2 * (b * i + s) + step)) (2 * s)).Ok (10 ^ 17) := by
  have row := ok_row (n := n) (s := s) (by omega) hn8 hb hb2 hs
  have mono : ∀ a c : Nat, a < c → b * a + b ≤ b * c := fun a c h => by
    have := Nat.mul_le_mul_left b (show a + 1 ≤ c from h)
    rw [Nat.mul_add] at this
    omega
  refine ok_set row (by simpa using hi) ?_ ?_ ?_ ?_
  · intro j hj hji
    simp only [List.getElem_map, List.getElem_range]
    have := mono j i hji
    split <;> omega
  · intro j hj hij
    simp only [List.getElem_map, List.getElem_range]
    have := mono i j hij
    split <;> omega
  · show _ < ((List.range n).map _).length * (2 * b) + 2 * s
    rw [List.length_map, List.length_range]
    have := mono i n hi
    have e : n * (2 * b) = 2 * (b * n) := by grind
    split <;> omega
  · have : b * i ≤ (10 ^ 12 + 39) * 8 := Nat.mul_le_mul hb2 (by omega)
    split <;> omega
section
variable {G : Prg} (P : Pg G) (T : PgC G) {st : Sto} {k : Nat}
include P T
theorem c_lrule {i d : Nat} {tk : List W} {bs : List Nat} (hi : i < st.length) (ht : Pk tk d) (hd : d + 20 < 2 ^ 64) (hbs : 0 < bs.length) (hbl : bs.length < 100) (hb : ∀ b ∈ bs, 1 ≤ b ∧ b ≤ 10 ^ 12 + 39) :
    ∃ (x : Sp) (tk' : List W), x.Ok (10 ^ 17) ∧ x.u < 10 ^ 16 ∧ Pk tk' (d + 20) ∧ callK G (k + 3) "_law_rule" [.ref i, .vl (bs.map N)] (st.set i (.lst tk)) = .ok x.w (st.set i (.lst tk')) := by
  rw [call_fn T.f_rule rfl rfl, T.k_rule]
  have TP := T.toPgP
  have ff := fun (g : Nat) => (Nat.lt_of_lt_of_le : g < 100 → 100 ≤ 2 ^ 60 → g < 2 ^ 60)
  obtain ⟨w1, tk1, m1, t1, e1⟩ := c_pick TP (k := k) (st := st) (xs := [.int 0, .int 0, .int 1, .int 1, .int 2, .int 3, .int 5, .int 8]) hi ht (by omega) (by simp) (by decide) (fun x hx => by simp at hx; rcases hx with rfl | rfl | rfl | rfl | rfl | rfl <;> rfl)
  obtain ⟨n, hn8, rfl⟩ : ∃ n : Nat, n ≤ 8 ∧ w1 = .int (n : Int) := by
    simp at m1
    rcases m1 with rfl | rfl | rfl | rfl | rfl | rfl
    · exact ⟨0, by decide, rfl⟩
    · exact ⟨1, by decide, rfl⟩
    · exact ⟨2, by decide, rfl⟩
    · exact ⟨3, by decide, rfl⟩
    · exact ⟨5, by decide, rfl⟩
    · exact ⟨8, by decide, rfl⟩
  obtain ⟨w2, tk2, m2, t2, e2⟩ := c_pick TP (k := k) (st := st) (xs := bs.map N) hi t1 (by omega) (by simpa using hbs) (by simp; omega) (fun x hx => by obtain ⟨b, _, rfl⟩ := List.mem_map.mp hx; rfl)
  obtain ⟨b, hbm, rfl⟩ := List.mem_map.mp m2
  obtain ⟨hb1, hb2⟩ := hb b hbm
  obtain ⟨r3, tk3, h3, t3, e3⟩ := c_draw TP (k := k + 1) (st := st) (many := min b 1000000 + 1) hi t2 (by omega) (by omega) (Nat.lt_of_le_of_lt (m := 1000001) (by omega) (by decide +kernel))
  have hmin : (if ((1000000 : Nat) : Int) < (b : Int) then ((1000000 : Nat) : Int) else (b : Int)) + 1 = ((min b 1000000 + 1 : Nat) : Int) := by split <;> omega
  obtain ⟨w4, tk4, m4, t4, e4⟩ := c_pick TP (k := k) (st := st) (xs := [.int 0, N b, N (b / 2), .int (r3 : Int)]) hi t3 (by omega) (by simp) (by show 4 < 2 ^ 60; decide) (fun x hx => by simp at hx; rcases hx with rfl | rfl | rfl | rfl <;> rfl)
  obtain ⟨s, hs, rfl⟩ : ∃ s : Nat, s ≤ b ∧ w4 = .int (s : Int) := by
    simp at m4
    rcases m4 with rfl | rfl | rfl | rfl
    · exact ⟨0, by omega, rfl⟩
    · exact ⟨b, by omega, rfl⟩
    · exact ⟨b / 2, by omega, rfl⟩
    · exact ⟨r3, by omega, rfl⟩
  obtain ⟨w5, tk5, m5, t5, e5⟩ := c_pick TP (k := k) (st := st) (xs := [.int 1, .int 2, .int 5, .int 1000]) hi t4 (by omega) (by simp) (by decide) (fun x hx => by simp at hx; rcases hx with rfl | rfl | rfl | rfl <;> rfl)
  obtain ⟨wd, hw0, hw1, rfl⟩ : ∃ wd : Nat, 0 < wd ∧ wd ≤ 1000 ∧ w5 = .int (wd : Int) := by
    simp at m5
    rcases m5 with rfl | rfl | rfl | rfl
    · exact ⟨1, by decide, by decide, rfl⟩
    · exact ⟨2, by decide, by decide, rfl⟩
    · exact ⟨5, by decide, by decide, rfl⟩
    · exact ⟨1000, by decide, by decide, rfl⟩
  obtain ⟨r6, tk6, h6, t6, e6⟩ := c_draw TP (k := k + 1) (st := st) (many := 4) hi t5 (by omega) (by decide) (by decide +kernel)
  have e6 : callK G (k + 2) "_law_draw" [.ref i, .int 4] (st.set i (.lst tk5)) = .ok (.int (r6 : Int)) (st.set i (.lst tk6)) := e6
  have d2 : divOk 2 = true := by decide
  have hdiv2 : ((b : Int) / 2) = ((b / 2 : Nat) : Int) := by omega
  have gcP : ∀ (w : W) (tk' : List W) (g : Sto) (d' : Nat), Pk tk' d' → w.rlt st.length = true → gcR false (st.set i (.lst tk)) (.ok w (st.set i (.lst tk') ++ g)) = .ok w (st.set i (.lst tk')) := fun w tk' g d' h hw => by
    have := gc_pool (b := false) (S := st.set i (.lst tk)) (g := g) (i := i) (o := .lst tk') (w := w) (pk_rlt h) (by rw [List.length_set]; exact hw)
    rw [List.set_set] at this
    exact this
  have gcP0 : ∀ (w : W) (tk' : List W) (d' : Nat), Pk tk' d' → w.rlt st.length = true → gcR false (st.set i (.lst tk)) (.ok w (st.set i (.lst tk'))) = .ok w (st.set i (.lst tk')) := fun w tk' d' h hw => by
    have := gcP w tk' [] d' h hw
    rwa [List.append_nil] at this
  simp only [F_rule25, start_, List.map_cons, List.map_nil, List.length_cons, List.length_nil, Nat.reduceAdd, Nat.reduceSub, List.replicate, List.cons_append, List.nil_append, List.append_nil, Nat.sub_self]
  rw [q_exs1]
  simp only [q_set, q_unp, q_ret, q_exp, q_ife, q_op, q_evs1, q_evs0, q_var, q_con, q_call, q_ite, q_and, q_or, q_not, q_eqo, List.getElem?_cons_zero, List.getElem?_cons_succ, q_bindok, q_ofok, List.set_cons_succ, List.set_cons_zero, q_nextnx, q_nextrt, q_trut, q_truf, q_truSt, q_truSf, p_tup, p_lst, mkLf, mkLt, List.length_cons, List.length_nil, Nat.reduceAdd, Nat.reduceLeDiff, if_true, put_tp, puts1, puts0, put_nm, p_addI, p_subI, p_ltI, p_leI, p_gtI, p_geI, p_lenL, p_lenT, p_ixL, p_ixT, q_lc, q_iseq, q_irng1, q_irng2, seqL, seqT, wipeE, noErr_ok, q_exs0, szL, e1]
  rw [q_exs1]
  simp only [q_set, q_unp, q_ret, q_exp, q_ife, q_op, q_evs1, q_evs0, q_var, q_con, q_call, q_ite, q_and, q_or, q_not, q_eqo, List.getElem?_cons_zero, List.getElem?_cons_succ, q_bindok, q_ofok, List.set_cons_succ, List.set_cons_zero, q_nextnx, q_nextrt, q_trut, q_truf, q_truSt, q_truSf, p_tup, p_lst, mkLf, mkLt, List.length_cons, List.length_nil, Nat.reduceAdd, Nat.reduceLeDiff, if_true, put_tp, puts1, puts0, put_nm, p_addI, p_subI, p_ltI, p_leI, p_gtI, p_geI, p_lenL, p_lenT, p_ixL, p_ixT, q_lc, q_iseq, q_irng1, q_irng2, seqL, seqT, wipeE, noErr_ok, q_exs0, e2]
  rw [q_exs1]
  simp only [q_set, q_unp, q_ret, q_exp, q_ife, q_op, q_evs1, q_evs0, q_var, q_con, q_call, q_ite, q_and, q_or, q_not, q_eqo, List.getElem?_cons_zero, List.getElem?_cons_succ, q_bindok, q_ofok, List.set_cons_succ, List.set_cons_zero, q_nextnx, q_nextrt, q_trut, q_truf, q_truSt, q_truSf, p_tup, p_lst, mkLf, mkLt, List.length_cons, List.length_nil, Nat.reduceAdd, Nat.reduceLeDiff, if_true, put_tp, puts1, puts0, put_nm, p_addI, p_subI, p_ltI, p_leI, p_gtI, p_geI, p_lenL, p_lenT, p_ixL, p_ixT, q_lc, q_iseq, q_irng1, q_irng2, seqL, seqT, wipeE, noErr_ok, q_exs0, szL, p_fdivI, d2, hdiv2, pow6, p_min, hmin, e3, show (W.int ((b / 2 : Nat) : Int)) = N (b / 2) from rfl]
  rw [e4]
  simp only [q_set, q_unp, q_ret, q_exp, q_ife, q_op, q_evs1, q_evs0, q_var, q_con, q_call, q_ite, q_and, q_or, q_not, q_eqo, List.getElem?_cons_zero, List.getElem?_cons_succ, q_bindok, q_ofok, List.set_cons_succ, List.set_cons_zero, q_nextnx, q_nextrt, q_trut, q_truf, q_truSt, q_truSf, p_tup, p_lst, mkLf, mkLt, List.length_cons, List.length_nil, Nat.reduceAdd, Nat.reduceLeDiff, if_true, put_tp, puts1, puts0, put_nm, p_addI, p_subI, p_ltI, p_leI, p_gtI, p_geI, p_lenL, p_lenT, p_ixL, p_ixT, q_lc, q_iseq, q_irng1, q_irng2, seqL, seqT, wipeE, noErr_ok, q_exs0]
  rw [q_exs1]
  simp only [q_set, q_unp, q_ret, q_exp, q_ife, q_op, q_evs1, q_evs0, q_var, q_con, q_call, q_ite, q_and, q_or, q_not, q_eqo, List.getElem?_cons_zero, List.getElem?_cons_succ, q_bindok, q_ofok, List.set_cons_succ, List.set_cons_zero, q_nextnx, q_nextrt, q_trut, q_truf, q_truSt, q_truSf, p_tup, p_lst, mkLf, mkLt, List.length_cons, List.length_nil, Nat.reduceAdd, Nat.reduceLeDiff, if_true, put_tp, puts1, puts0, put_nm, p_addI, p_subI, p_ltI, p_leI, p_gtI, p_geI, p_lenL, p_lenT, p_ixL, p_ixT, q_lc, q_iseq, q_irng1, q_irng2, seqL, seqT, wipeE, noErr_ok, q_exs0, szL, e5, e6]
  rw [q_exs1]
  simp only [q_ife, q_eqo, q_var, q_con, List.getElem?_cons_zero, List.getElem?_cons_succ, q_bindok, eqT_int, Bool.false_eq_true, if_false, q_ofok]
  by_cases hn0 : n = 0
  · subst hn0
    refine ⟨⟨b, [], s⟩, tk6, ⟨by show 0 < b; omega, hs, List.Pairwise.nil, fun m hm => (by cases hm), by show 0 ≤ 8; decide, by show b < 10 ^ 17; omega, fun m hm => (by cases hm)⟩, by show b < 10 ^ 16; omega, t6.mono (by omega), ?_⟩
    rw [decide_eq_true (show ((0 : Nat) : Int) = 0 from rfl), q_truSt, q_exs1]
    simp only [q_set, q_unp, q_ret, q_exp, q_ife, q_op, q_evs1, q_evs0, q_var, q_con, q_call, q_ite, q_and, q_or, q_not, q_eqo, List.getElem?_cons_zero, List.getElem?_cons_succ, q_bindok, q_ofok, List.set_cons_succ, List.set_cons_zero, q_nextnx, q_nextrt, q_trut, q_truf, q_truSt, q_truSf, p_tup, p_lst, mkLf, mkLt, List.length_cons, List.length_nil, Nat.reduceAdd, Nat.reduceLeDiff, if_true, put_tp, puts1, puts0, put_nm, p_addI, p_subI, p_ltI, p_leI, p_gtI, p_geI, p_lenL, p_lenT, p_ixL, p_ixT, q_lc, q_iseq, q_irng1, q_irng2, seqL, seqT, wipeE, noErr_ok, q_exs0, szL, q_finrt, Nat.zero_le]
    exact gcP0 _ _ _ t6 rfl
  rw [decide_eq_false (show ¬ ((n : Nat) : Int) = 0 by omega), q_truSf]
  simp only [q_exs0, q_nextnx]
  rw [q_exs1]
  simp only [q_ife, q_op, q_evs1, q_evs0, q_var, q_con, List.getElem?_cons_zero, List.getElem?_cons_succ, q_bindok, p_gtI, q_ofok]
  have n10 : n < 1000 := by omega
  by_cases hw : r6 = 0
  · subst hw
    rw [decide_eq_false (show ¬ (((0 : Nat) : Int) > 0) by decide), q_truSf]
    simp only [q_exs0, q_nextnx]
    obtain ⟨a7, tk7, h7, t7, e7⟩ := c_draw TP (k := k + 1) (st := st ++ [.lst ((List.range n).map fun j => N (2 * (b * j + s)))]) (many := n) (i := i) (by simp; omega) t6 (by omega) (by omega) (Nat.lt_of_le_of_lt (m := 8) (by omega) (by decide +kernel))
    obtain ⟨w8, tk8, m8, t8, e8⟩ := c_pick TP (k := k) (st := st ++ [.lst ((List.range n).map fun j => N (2 * (b * j + s)))]) (i := i) (xs := [.int 1, N b, .int ((2 * b - 1 : Nat) : Int)]) (by simp; omega) t7 (by omega) (by simp) (by show 3 < 2 ^ 60; decide) (fun x hx => by simp at hx; rcases hx with rfl | rfl | rfl <;> rfl)
    obtain ⟨sp, hp1, hp2, rfl⟩ : ∃ sp : Nat, 1 ≤ sp ∧ sp ≤ 2 * b - 1 ∧ w8 = .int (sp : Int) := by
      simp at m8
      rcases m8 with rfl | rfl | rfl
      · exact ⟨1, by omega, by omega, rfl⟩
      · exact ⟨b, by omega, by omega, rfl⟩
      · exact ⟨2 * b - 1, by omega, by omega, by simp⟩
    obtain ⟨w9, tk9, m9, t9, e9⟩ := c_pick TP (k := k) (st := st ++ [.lst ((List.range n).map fun j => N (2 * (b * j + s)))]) (i := i) (xs := [.int 1, .int (-1)]) (by simp; omega) t8 (by omega) (by simp) (by decide) (fun x hx => by simp at hx; rcases hx with rfl | rfl <;> rfl)
    obtain ⟨neg, rfl⟩ : ∃ neg : Bool, w9 = .int (if neg then -1 else 1) := by
      simp at m9
      rcases m9 with rfl | rfl
      · exact ⟨false, rfl⟩
      · exact ⟨true, rfl⟩
    have sa : ∀ (tk' : List W) (ms : List W), (st ++ [Ob.lst ms]).set i (.lst tk') = st.set i (.lst tk') ++ [.lst ms] := fun tk' ms => by rw [List.set_append_left _ _ hi]
    rw [sa, sa] at e7 e8 e9
    refine ⟨⟨2 * b, ((List.range n).map fun j => 2 * (b * j + s)).set a7 (if neg then 2 * (b * a7 + s) - sp else 2 * (b * a7 + s) + sp), 2 * s⟩, tk9, ok_moved hn8 hb1 hb2 hs h7 hp1 hp2, by show 2 * b < 10 ^ 16; omega, t9.mono (by omega), ?_⟩
    have m2' : mulOk 2 (b : Int) = true := mul_ok (n := 2) (m := 50) (by decide) (by simp; omega) (by decide)
    have m2s : mulOk 2 (s : Int) = true := mul_ok (n := 2) (m := 50) (by decide) (by simp; omega) (by decide)
    rw [q_exs1]
    simp only [q_set, q_lc, q_irng1, q_var, List.getElem?_cons_zero, List.getElem?_cons_succ, q_bindok, rngI1 n10, List.length_map, List.length_range, show n ≤ szL from Nat.le_trans hn8 (by decide), if_true, wipeE, List.set_cons_succ, List.set_cons_zero]
    rw [lc_rng (f := fun j => N (2 * (b * j + s))) (fun j hj => by
      have q1 : mulOk (b : Int) (0 + (j : Int)) = true := mul_ok (n := 50) (m := 10) (by simp; omega) (by omega) (by decide)
      have q2 : mulOk 2 ((b : Int) * (0 + (j : Int)) + (s : Int)) = true := mul_ok (n := 2) (m := 60) (by decide) (by
        have : b * j ≤ (10 ^ 12 + 39) * 8 := Nat.mul_le_mul hb2 (by omega)
        have e : (b : Int) * (0 + (j : Int)) + (s : Int) = ((b * j + s : Nat) : Int) := by rw [Int.zero_add]; omega
        rw [e, Int.natAbs_natCast]
        omega) (by decide)
      simp only [q_set, q_unp, q_ret, q_exp, q_ife, q_op, q_evs1, q_evs0, q_var, q_con, q_call, q_ite, q_and, q_or, q_not, q_eqo, List.getElem?_cons_zero, List.getElem?_cons_succ, q_bindok, q_ofok, List.set_cons_succ, List.set_cons_zero, q_nextnx, q_nextrt, q_trut, q_truf, q_truSt, q_truSf, p_tup, p_lst, mkLf, mkLt, List.length_cons, List.length_nil, Nat.reduceAdd, Nat.reduceLeDiff, if_true, put_tp, puts1, puts0, put_nm, p_addI, p_subI, p_ltI, p_leI, p_gtI, p_geI, p_lenL, p_lenT, p_ixL, p_ixT, q_lc, q_iseq, q_irng1, q_irng2, seqL, seqT, wipeE, noErr_ok, q_exs0, p_addmI, p_mulI, q1, q2]
      congr 2
      show (2 : Int) * _ = ((2 * (b * j + s) : Nat) : Int)
      rw [Int.zero_add]
      omega) (fun j => rfl)]
    have len6 : (st.set i (Ob.lst tk6)).length = st.length := List.length_set
    simp only [q_bindok, List.nil_append, mkLt, noErr_ok, q_ofok, List.set_cons_succ, List.set_cons_zero, q_nextnx, len6]
    rw [q_exs1]
    simp only [q_set, q_unp, q_ret, q_exp, q_ife, q_op, q_evs1, q_evs0, q_var, q_con, q_call, q_ite, q_and, q_or, q_not, q_eqo, List.getElem?_cons_zero, List.getElem?_cons_succ, q_bindok, q_ofok, List.set_cons_succ, List.set_cons_zero, q_nextnx, q_nextrt, q_trut, q_truf, q_truSt, q_truSf, p_tup, p_lst, mkLf, mkLt, List.length_cons, List.length_nil, Nat.reduceAdd, Nat.reduceLeDiff, if_true, put_tp, puts1, puts0, put_nm, p_addI, p_subI, p_ltI, p_leI, p_gtI, p_geI, p_lenL, p_lenT, p_ixL, p_ixT, q_lc, q_iseq, q_irng1, q_irng2, seqL, seqT, wipeE, noErr_ok, q_exs0, szL, e7, p_mulI, m2', show (2 : Int) * (b : Int) - 1 = ((2 * b - 1 : Nat) : Int) by omega]
    rw [show [W.int 1, W.int (b : Int), W.int ((2 * b - 1 : Nat) : Int)] = [W.int 1, N b, W.int ((2 * b - 1 : Nat) : Int)] from rfl, e8]
    simp only [q_set, q_unp, q_ret, q_exp, q_ife, q_op, q_evs1, q_evs0, q_var, q_con, q_call, q_ite, q_and, q_or, q_not, q_eqo, List.getElem?_cons_zero, List.getElem?_cons_succ, q_bindok, q_ofok, List.set_cons_succ, List.set_cons_zero, q_nextnx, q_nextrt, q_trut, q_truf, q_truSt, q_truSf, p_tup, p_lst, mkLf, mkLt, List.length_cons, List.length_nil, Nat.reduceAdd, Nat.reduceLeDiff, if_true, put_tp, puts1, puts0, put_nm, p_addI, p_subI, p_ltI, p_leI, p_gtI, p_geI, p_lenL, p_lenT, p_ixL, p_ixT, q_lc, q_iseq, q_irng1, q_irng2, seqL, seqT, wipeE, noErr_ok, q_exs0, szL]
    rw [q_exs1]
    have gl : ∀ (tk' : List W) (ms : List W), (st.set i (.lst tk') ++ [Ob.lst ms])[st.length]? = some (.lst ms) := fun tk' ms => by rw [List.getElem?_append_right (by simp)]; simp
    have ixm : ∀ tk' : List W, prim .ix [.ref st.length, .int (a7 : Int)] (st.set i (.lst tk') ++ [.lst ((List.range n).map fun j => N (2 * (b * j + s)))]) = .ok (N (2 * (b * a7 + s))) (st.set i (.lst tk') ++ [.lst ((List.range n).map fun j => N (2 * (b * j + s)))]) := fun tk' => by
      show pIx (.ref st.length) (.int (a7 : Int)) _ = _
      have e : L2.atI ((List.range n).map fun j => N (2 * (b * j + s))) (a7 : Int) = some (N (2 * (b * a7 + s))) := by
        rw [at_nat (by simpa using h7), List.getElem?_map, List.getElem?_range h7]; rfl
      simp only [pIx, items, gl, e]
    have sgn : mulOk (sp : Int) (if neg then -1 else 1) = true := mul_ok (n := 60) (m := 2) (by simp; omega) (by cases neg <;> decide) (by decide)
    have ixn : L2.ixN n (a7 : Int) = some a7 := by
      unfold L2.ixN
      rw [if_pos (by omega), if_pos (by omega)]
      simp
    have val : (if (((2 * (b * a7 + s) : Nat) : Int)) + (sp : Int) * (if neg then -1 else 1) > 0 then (((2 * (b * a7 + s) : Nat) : Int)) + (sp : Int) * (if neg then -1 else 1) else 0) = ((if neg then 2 * (b * a7 + s) - sp else 2 * (b * a7 + s) + sp : Nat) : Int) := by
      cases neg with
      | true => simp only [if_true]; split <;> omega
      | false => simp only [Bool.false_eq_true, if_false]; split <;> omega
    have setm : ∀ (tk' ms ms' : List W), (st.set i (.lst tk') ++ [Ob.lst ms]).set st.length (.lst ms') = st.set i (.lst tk') ++ [.lst ms'] := fun tk' ms ms' => by
      rw [List.set_append_right _ _ (by simp)]
      simp
    simp only [q_sub, q_set, q_unp, q_ret, q_exp, q_ife, q_op, q_evs1, q_evs0, q_var, q_con, q_call, q_ite, q_and, q_or, q_not, q_eqo, List.getElem?_cons_zero, List.getElem?_cons_succ, q_bindok, q_ofok, List.set_cons_succ, List.set_cons_zero, q_nextnx, q_nextrt, q_trut, q_truf, q_truSt, q_truSf, p_tup, p_lst, mkLf, mkLt, List.length_cons, List.length_nil, Nat.reduceAdd, Nat.reduceLeDiff, if_true, put_tp, puts1, puts0, put_nm, p_addI, p_subI, p_ltI, p_leI, p_gtI, p_geI, p_lenL, p_lenT, p_ixL, p_ixT, q_lc, q_iseq, q_irng1, q_irng2, seqL, seqT, wipeE, noErr_ok, q_exs0, szL, p_negI, ixm, e9, p_mulI, sgn, p_max, val, gl, List.length_map, List.length_range, ixn, setm]
    rw [q_exs1]
    simp only [q_set, q_unp, q_ret, q_exp, q_ife, q_op, q_evs1, q_evs0, q_var, q_con, q_call, q_ite, q_and, q_or, q_not, q_eqo, List.getElem?_cons_zero, List.getElem?_cons_succ, q_bindok, q_ofok, List.set_cons_succ, List.set_cons_zero, q_nextnx, q_nextrt, q_trut, q_truf, q_truSt, q_truSf, p_tup, p_lst, mkLf, mkLt, List.length_cons, List.length_nil, Nat.reduceAdd, Nat.reduceLeDiff, if_true, put_tp, puts1, puts0, put_nm, p_addI, p_subI, p_ltI, p_leI, p_gtI, p_geI, p_lenL, p_lenT, p_ixL, p_ixT, q_lc, q_iseq, q_irng1, q_irng2, seqL, seqT, wipeE, noErr_ok, q_exs0, szL, p_mulI, m2', m2s, q_finrt]
    have gg := gc_tref (S := st.set i (.lst tk)) (i := i) (o := .lst tk9) (a := .int (2 * (b : Int))) (c := .int (2 * (s : Int))) (xs := ((List.range n).map fun j => N (2 * (b * j + s))).set a7 (.int ((if neg then 2 * (b * a7 + s) - sp else 2 * (b * a7 + s) + sp : Nat) : Int))) (pk_rlt t9) rfl rfl (fun x hx => by
      rcases List.mem_or_eq_of_mem_set hx with hx | rfl
      · obtain ⟨j, _, rfl⟩ := List.mem_map.mp hx; rfl
      · rfl)
    rw [List.set_set, List.length_set] at gg
    rw [gg]
    show R.ok (W.tup _) _ = .ok (W.tup _) _
    congr 4
    simp only [List.map_set, List.map_map, Function.comp_def]
  · have hpos : ((r6 : Nat) : Int) > 0 := by omega
    rw [decide_eq_true hpos, q_truSt]
    obtain ⟨s0, tk7, h7, t7, e7⟩ := c_draw TP (k := k + 1) (st := st) (many := wd + 1) hi t6 (by omega) (by omega) (Nat.lt_of_le_of_lt (m := 1001) (by omega) (by decide +kernel))
    obtain ⟨ws, tk8, g1, g2, t8, e8⟩ := lc_draws P T (k := k + 1) (st := st) (i := i) (wide := wd) (env := [some (.ref i), some (.vl (bs.map N)), some (.int (n : Int)), some (N b), some (.int (s : Int)), some (.int (wd : Int)), some (.int (r6 : Int)), none, none, none, none, none, none, none]) hi hw0 hw1 rfl rfl ⟨(List.range n).map fun j : Nat => .int (0 + (j : Int)), []⟩ rfl (List.range n) [] tk7 (d + 1 + 1 + 1 + 1 + 1 + 1 + 1) t7 (by simp; omega)
    rw [List.length_range] at g1 t8
    obtain ⟨okx, hux⟩ := ok_steps (n := n) (b := b) (s := s) (s0 := s0) (ws := ws) (by omega) hn8 hb1 hb2 hs g1 g2 (by omega)
    refine ⟨_, tk8, okx, hux, t8.mono (by omega), ?_⟩
    have hw1e : (wd : Int) + 1 = ((wd + 1 : Nat) : Int) := by omega
    rw [q_exs1]
    simp only [q_set, q_op, q_evs1, q_evs0, q_call, q_var, q_con, List.getElem?_cons_zero, List.getElem?_cons_succ, q_bindok, p_addI, hw1e, e7, p_lst, List.length_cons, List.length_nil, Nat.reduceAdd, szL, Nat.reduceLeDiff, if_true, mkLf, q_lc, q_irng1, rngI1 n10, List.length_map, List.length_range, wipeE, List.set_cons_succ, List.set_cons_zero]
    rw [if_pos (show n ≤ 1000000 by omega), e8]
    have hadd : ∀ S : Sto, prim .add [.vl [.int (s0 : Int)], .vl (ws.map N)] S = .ok (.vl ((s0 :: ws).map N)) S := fun S => by
      rw [p_add]
      have : [W.int (s0 : Int)].length + (ws.map N).length ≤ szL := by simp [szL, g1]; omega
      simp only [pAdd, lstOf, this, if_true]
      rfl
    simp only [q_bindok, List.nil_append, mkLf, noErr_ok, hadd, q_ofok, List.set_cons_succ, List.set_cons_zero, q_nextnx]
    rw [q_exs1]
    have mnb : mulOk (n : Int) (b : Int) = true := mul_ok (n := 10) (m := 50) (by simp; omega) (by simp; omega) (by decide)
    have hsum : (s0 :: ws).sum ≤ 9000 := by
      have := sum_le (B := 1000) (s0 :: ws) (fun w hw' => by
        rcases List.mem_cons.mp hw' with rfl | h
        · omega
        · exact (g2 w h).2)
      simp only [List.length_cons, g1] at this
      omega
    have htop : (n : Int) * (b : Int) + (s : Int) = ((n * b + s : Nat) : Int) := by omega
    simp only [q_set, q_unp, q_ret, q_exp, q_ife, q_op, q_evs1, q_evs0, q_var, q_con, q_call, q_ite, q_and, q_or, q_not, q_eqo, List.getElem?_cons_zero, List.getElem?_cons_succ, q_bindok, q_ofok, List.set_cons_succ, List.set_cons_zero, q_nextnx, q_nextrt, q_trut, q_truf, q_truSt, q_truSf, p_tup, p_lst, mkLf, mkLt, List.length_cons, List.length_nil, Nat.reduceAdd, Nat.reduceLeDiff, if_true, put_tp, puts1, puts0, put_nm, p_addI, p_subI, p_ltI, p_leI, p_gtI, p_geI, p_lenL, p_lenT, p_ixL, p_ixT, q_lc, q_iseq, q_irng1, q_irng2, seqL, seqT, wipeE, noErr_ok, q_exs0, szL, p_sumN, p_mulI, mnb, htop]
    rw [q_exs1]
    have mbs : mulOk (b : Int) (((s0 :: ws).sum : Nat) : Int) = true := mul_ok (n := 50) (m := 20) (by simp; omega) (by rw [Int.natAbs_natCast]; omega) (by decide)
    have mss : mulOk (s : Int) (((s0 :: ws).sum : Nat) : Int) = true := mul_ok (n := 50) (m := 20) (by simp; omega) (by rw [Int.natAbs_natCast]; omega) (by decide)
    have nb : n * b ≤ 8 * (10 ^ 12 + 39) := Nat.mul_le_mul hn8 hb2
    simp only [q_ret, q_op, q_evs1, q_evs0, q_var, List.getElem?_cons_zero, List.getElem?_cons_succ, q_bindok, p_mulI, mbs, mss, if_true, q_lc, q_irng1, rngI1 n10, List.length_map, List.length_range, wipeE, List.set_cons_succ, List.set_cons_zero, szL]
    rw [if_pos (show n ≤ 1000000 by omega), lc_rng (f := fun j => N ((n * b + s) * pre (s0 :: ws) j)) (fun j hj => by
      have cj : (0 : Int) + (j : Int) + 1 = ((j + 1 : Nat) : Int) := by omega
      have sl : ∀ S : Sto, prim (.slc false true) [.vl ((s0 :: ws).map N), .int ((j + 1 : Nat) : Int)] S = .ok (.vl (((s0 :: ws).take (j + 1)).map N)) S := fun S => by
        show pCut none (some ((j + 1 : Nat) : Int)) (.vl ((s0 :: ws).map N)) S = _
        simp only [pCut, cut_N]
      have pl : pre (s0 :: ws) j ≤ 9000 := by
        have h9 := List.take_append_drop (j + 1) (s0 :: ws)
        have h10 := congrArg List.sum h9
        rw [List.sum_append] at h10
        show ((s0 :: ws).take (j + 1)).sum ≤ 9000
        omega
      have mm : mulOk ((n * b + s : Nat) : Int) ((pre (s0 :: ws) j : Nat) : Int) = true := mul_ok (n := 60) (m := 20) (by rw [Int.natAbs_natCast]; omega) (by rw [Int.natAbs_natCast]; omega) (by decide)
      simp only [q_set, q_unp, q_ret, q_exp, q_ife, q_op, q_evs1, q_evs0, q_var, q_con, q_call, q_ite, q_and, q_or, q_not, q_eqo, List.getElem?_cons_zero, List.getElem?_cons_succ, q_bindok, q_ofok, List.set_cons_succ, List.set_cons_zero, q_nextnx, q_nextrt, q_trut, q_truf, q_truSt, q_truSf, p_tup, p_lst, mkLf, mkLt, List.length_cons, List.length_nil, Nat.reduceAdd, Nat.reduceLeDiff, if_true, put_tp, puts1, puts0, put_nm, p_addI, p_subI, p_ltI, p_leI, p_gtI, p_geI, p_lenL, p_lenT, p_ixL, p_ixT, q_lc, q_iseq, q_irng1, q_irng2, seqL, seqT, wipeE, noErr_ok, q_exs0, cj, sl, p_sumN]
      have mm' : mulOk ((n * b + s : Nat) : Int) (((((s0 :: ws).take (j + 1)).sum : Nat)) : Int) = true := mm
      simp only [p_mulI, mm', if_true]
      rfl) (fun j => rfl)]
    simp only [q_set, q_unp, q_ret, q_exp, q_ife, q_op, q_evs1, q_evs0, q_var, q_con, q_call, q_ite, q_and, q_or, q_not, q_eqo, List.getElem?_cons_zero, List.getElem?_cons_succ, q_bindok, q_ofok, List.set_cons_succ, List.set_cons_zero, q_nextnx, q_nextrt, q_trut, q_truf, q_truSt, q_truSf, p_tup, p_lst, mkLf, mkLt, List.length_cons, List.length_nil, Nat.reduceAdd, Nat.reduceLeDiff, if_true, put_tp, puts1, puts0, put_nm, p_addI, p_subI, p_ltI, p_leI, p_gtI, p_geI, p_lenL, p_lenT, p_ixL, p_ixT, q_lc, q_iseq, q_irng1, q_irng2, seqL, seqT, wipeE, noErr_ok, q_exs0, szL, List.nil_append, q_finrt]
    rw [gcP0 _ _ _ t8 (by
      show W.rlts st.length [_, .vl _, _] = true
      have : W.rlts st.length ((List.range n).map fun j => N ((n * b + s) * pre (s0 :: ws) j)) = true := rlts_map (fun _ => rfl) _
      simp [this])]
    show R.ok (W.tup _) _ = .ok (W.tup _) _
    congr 4
    simp only [List.map_map, Function.comp_def]
end
end Zv

set_option maxRecDepth 100000
set_option maxHeartbeats 8000000
/-! L25d: the law's rules near to a drawn one. -/
namespace Zv
open PySem
def F_near25 : FnC := { np := 2, star := false, ns := 11, body := [.unp (.tp [.nm 2, .nm 3]) (.op .tup [.call "_law_draw" none [.var 0, .con (.int (6))], .op .len [.op .ix [.var 1, .con (.int (1))]]]), .unp (.tp [.nm 4, .nm 5]) (.op .tup [.op .mul [.con (.int (2)), .op .ix [.var 1, .con (.int (0))]], .op .mul [.con (.int (2)), .op .ix [.var 1, .con (.int (2))]]]), .set 6 (.lc true (.nm 7) [7] (.seq (.op .ix [.var 1, .con (.int (1))])) [] (.op .mul [.con (.int (2)), .var 7])), .ife (.eqo false (.var 2) (.con (.int (0)))) [.ret (.call "_law_rule" none [.var 0, .op (.lst false) [.con (.int (1)), .con (.int (2)), .con (.int (3)), .con (.int (10))]])] [], .ife (.and (.eqo false (.var 2) (.con (.int (1)))) (.op .lt [.var 5, .var 4])) [.set 8 (.op .add [.con (.int (1)), .call "_law_draw" none [.var 0, .op .min2 [.op .sub [.var 4, .var 5], .op .pow [.con (.int (10)), .con (.int (6))]]]]), .ret (.op .tup [.var 4, .lc false (.nm 7) [7] (.seq (.var 6)) [] (.op .add [.var 7, .var 8]), .op .add [.var 5, .var 8]])] [], .ife (.and (.eqo false (.var 2) (.con (.int (2)))) (.op .lt [.var 5, .var 4])) [.ret (.op .tup [.var 4, .var 6, .op .add [.var 5, .con (.int (1))]])] [], .set 9 (.call "_law_draw" none [.var 0, .con (.int (9))]), .set 6 (.op .addm [.var 6, .lc true (.nm 10) [10] (.rng2 (.var 3) (.op .max2 [.var 3, .var 9])) [] (.op .addm [.op .mul [.var 4, .var 10], .var 5])]), .ife (.or (.eqo false (.var 2) (.con (.int (3)))) (.eqo false (.var 6) (.op (.lst false) []))) [.ret (.op .tup [.var 4, .var 6, .var 5])] [], .set 10 (.call "_law_draw" none [.var 0, .op .len [.var 6]]), .sub (.var 6) (.var 10) (.ite (.or (.eqo false (.var 2) (.con (.int (4)))) (.eqo false (.op .ix [.var 6, .var 10]) (.con (.int (0))))) (.op .add [.op .ix [.var 6, .var 10], .con (.int (1))]) (.op .sub [.op .ix [.var 6, .var 10], .con (.int (1))])), .ret (.op .tup [.var 4, .var 6, .var 5])] }
theorem gc_tref2 {S g : Sto} {i r : Nat} {o : Ob} {a c : W} {xs : List W} (ho : o.rlt S.length = true) (ha : a.rlt S.length = true) (hc : c.rlt S.length = true) (hx : ∀ x ∈ xs, x.rlt S.length = true) (hr : S.length ≤ r) (hg : (S.set i o ++ g)[r]? = some (.lst xs)) : gcR false S (.ok (.tup [a, .ref r, c]) (S.set i o ++ g)) = .ok (.tup [a, .vl xs, c]) (S.set i o) := by
  have e : (S.set i o ++ g).take S.length = S.set i o := by rw [List.take_append_of_le_length (by simp), List.take_of_length_le (by simp)]
  have hnr : decide (r < S.length) = false := decide_eq_false (by omega)
  have er : frzW S.length (S.set i o ++ g) 4 (.ref r) = some (.vl xs) := by
    unfold frzW
    have : W.rlt S.length (.ref r) = false := hnr
    rw [this]
    simp [hg, allSome_frz hx]
  have et : frzW S.length (S.set i o ++ g) 5 (.tup [a, .ref r, c]) = some (.tup [a, .vl xs, c]) := by
    unfold frzW
    have : W.rlt S.length (.tup [a, .ref r, c]) = false := by
      show (a.rlt S.length && (W.rlt S.length (.ref r) && (c.rlt S.length && true))) = false
      rw [show W.rlt S.length (.ref r) = false from hnr]
      simp
    rw [this]
    simp [allSome, er, frz_pur ha, frz_pur hc]
  simp only [gcR, gcOk_setapp ho, if_true, e, et]
  rfl
theorem Sp.Ok.at_lt {x : Sp} {B : Nat} (h : x.Ok B) {i j : Nat} (hij : i < j) : x.at i < x.at j := by
  by_cases hj : j < x.ms.length
  · unfold Sp.at
    rw [List.getElem?_eq_getElem hj, List.getElem?_eq_getElem (show i < x.ms.length by omega)]
    exact List.pairwise_iff_getElem.mp h.asc i j (by omega) hj hij
  · rw [Sp.at_ge (x := x) (l := j) (by omega)]
    have hu := h.u0
    by_cases hi : i < x.ms.length
    · unfold Sp.at
      rw [List.getElem?_eq_getElem hi]
      have h1 := h.last _ (List.getElem_mem hi)
      have h2 : x.ms.length * x.u ≤ j * x.u := Nat.mul_le_mul_right _ (by omega)
      show x.ms[i] < _
      omega
    · rw [Sp.at_ge (by omega)]
      have := Nat.mul_lt_mul_of_pos_right hij hu
      omega
theorem Sp.Ok.at_last {x : Sp} {B : Nat} (h : x.Ok B) {j M : Nat} (hj : j < M) (hM : x.ms.length ≤ M) : x.at j < M * x.u + x.s := by
  have := h.at_lt hj
  rwa [Sp.at_ge (x := x) (l := M) hM] at this
theorem ok_ext {x : Sp} (h : x.Ok (10 ^ 17)) (hu : x.u < 10 ^ 16) {M : Nat} (hM : x.ms.length ≤ M) (hM8 : M ≤ 8) {t : Nat} (ht : 2 * x.s ≤ t) (ht2 : t ≤ 2 * x.u) : (Sp.mk (2 * x.u) ((List.range M).map fun j => 2 * x.at j) t).Ok (10 ^ 18) := by
  have hu0 := h.u0
  refine ⟨by show 0 < 2 * x.u; omega, ht2, ?_, ?_, by simpa using hM8, by show 2 * x.u < 10 ^ 18; omega, ?_⟩
  · refine List.pairwise_iff_getElem.mpr fun i j hi hj hij => ?_
    simp only [List.getElem_map, List.getElem_range]
    have := h.at_lt hij
    omega
  · intro m hm
    obtain ⟨j, hj, rfl⟩ := List.mem_map.mp hm
    have hj : j < M := List.mem_range.mp hj
    have := h.at_last hj hM
    show _ < ((List.range M).map _).length * (2 * x.u) + t
    rw [List.length_map, List.length_range]
    have e : M * (2 * x.u) = 2 * (M * x.u) := by grind
    omega
  · intro m hm
    obtain ⟨j, hj, rfl⟩ := List.mem_map.mp hm
    have hj : j < M := List.mem_range.mp hj
    have := h.at_last hj hM
    have h2 : M * x.u ≤ 8 * x.u := Nat.mul_le_mul_right _ hM8
    have := h.su
    omega
theorem ok_bump {x : Sp} (h : x.Ok (10 ^ 17)) (hu : x.u < 10 ^ 16) {M : Nat} (hM : x.ms.length ≤ M) (hM8 : M ≤ 8) {i : Nat} (hi : i < M) {m : Nat} (hm : m = 2 * x.at i + 1 ∨ (2 * x.at i ≠ 0 ∧ m = 2 * x.at i - 1)) : (Sp.mk (2 * x.u) (((List.range M).map fun j => 2 * x.at j).set i m) (2 * x.s)).Ok (10 ^ 18) := by
  have e := ok_ext h hu hM hM8 (t := 2 * x.s) (Nat.le_refl _) (by have := h.su; omega)
  have hl := h.at_last hi hM
  have h2 : M * x.u ≤ 8 * x.u := Nat.mul_le_mul_right _ hM8
  have hsu := h.su
  refine ok_set e (by simpa using hi) ?_ ?_ ?_ ?_
  · intro j hj hji
    simp only [List.getElem_map, List.getElem_range]
    have := h.at_lt hji
    rcases hm with rfl | ⟨h0, rfl⟩ <;> omega
  · intro j hj hij
    simp only [List.getElem_map, List.getElem_range]
    have := h.at_lt hij
    rcases hm with rfl | ⟨h0, rfl⟩ <;> omega
  · show _ < ((List.range M).map _).length * (2 * x.u) + 2 * x.s
    rw [List.length_map, List.length_range]
    have e : M * (2 * x.u) = 2 * (M * x.u) := by grind
    rcases hm with rfl | ⟨h0, rfl⟩ <;> omega
  · rcases hm with rfl | ⟨h0, rfl⟩ <;> omega
theorem ok_up {x : Sp} (h : x.Ok (10 ^ 17)) (hu : x.u < 10 ^ 16) {c : Nat} (hc : 2 * x.s + c ≤ 2 * x.u) : (Sp.mk (2 * x.u) (x.ms.map fun m => 2 * m + c) (2 * x.s + c)).Ok (10 ^ 18) := by
  have hu0 := h.u0
  refine ⟨by show 0 < 2 * x.u; omega, hc, ?_, ?_, by simpa using h.len, by show 2 * x.u < 10 ^ 18; omega, ?_⟩
  · refine List.pairwise_iff_getElem.mpr fun i j hi hj hij => ?_
    simp only [List.length_map] at hi hj
    simp only [List.getElem_map]
    have := List.pairwise_iff_getElem.mp h.asc i j hi hj hij
    omega
  · intro m hm
    obtain ⟨j, hj, rfl⟩ := List.mem_map.mp hm
    have := h.last j hj
    show _ < (x.ms.map _).length * (2 * x.u) + (2 * x.s + c)
    rw [List.length_map]
    have e : x.ms.length * (2 * x.u) = 2 * (x.ms.length * x.u) := by grind
    omega
  · intro m hm
    obtain ⟨j, hj, rfl⟩ := List.mem_map.mp hm
    have := h.mb j hj
    omega
theorem dbl_at {x : Sp} : (x.ms.map fun m => 2 * m) = (List.range x.ms.length).map fun j => 2 * x.at j := by
  refine List.ext_getElem (by simp) fun i h1 h2 => ?_
  simp only [List.length_map] at h1
  simp only [List.getElem_map, List.getElem_range]
  unfold Sp.at
  rw [List.getElem?_eq_getElem h1]
theorem more_at {x : Sp} {M : Nat} (hM : x.ms.length ≤ M) : ((x.ms.map fun m => 2 * m) ++ (List.range (M - x.ms.length)).map fun j => 2 * x.u * (x.ms.length + j) + 2 * x.s) = (List.range M).map fun j => 2 * x.at j := by
  rw [dbl_at]
  obtain ⟨c, rfl⟩ : ∃ c, M = x.ms.length + c := ⟨M - x.ms.length, by omega⟩
  rw [List.range_add, List.map_append, List.map_map, Nat.add_sub_cancel_left]
  congr 1
  apply List.map_congr_left
  intro j _
  show _ = 2 * x.at (x.ms.length + j)
  rw [Sp.at_ge (by omega)]
  grind
theorem Sp.Ok.up {x : Sp} {A B : Nat} (h : x.Ok A) (hAB : A ≤ B) : x.Ok B := ⟨h.u0, h.su, h.asc, h.last, h.len, Nat.lt_of_lt_of_le h.ub hAB, fun m hm => Nat.lt_of_lt_of_le (h.mb m hm) hAB⟩
theorem eq_nilR {G : Prg} {cl : Cl} {S : Sto} {r : Nat} {ms : List Nat} (h : S[r]? = some (.lst (ms.map N))) : eqT G cl false (.ref r) (.vl []) S = .ok (.bl (decide (ms = []))) S := by
  have e1 : toD S dep (.ref r) = some (.list (ms.map fun (m : Nat) => .int (m : Int))) := by
    have : ∀ ms : List Nat, allSome (toD S 11) (ms.map N) = some (ms.map fun (m : Nat) => PyData.int (m : Int)) := by
      intro ms
      induction ms with
      | nil => rfl
      | cons m ms ih => simp only [List.map_cons, allSome, ih]; rfl
    show (match S[r]? with
    | some (.lst xs) => (match allSome (toD S 11) xs with
      | some ds => some (PyData.list ds)
      | none => none)
    | _ => none) = _
    simp only [h, this]
  have e2 : toD S dep (.vl []) = some (.list []) := rfl
  have hd : W.dat dep (.vl (ms.map N)) = true := dats_map (fun _ => rfl) ms
  obtain ⟨l1, l2⟩ := lay_dat _ _ hd
  have hs : SeqAt.shaped (W.vl (ms.map N)).toP = true := by
    unfold SeqAt.shaped
    have : (W.vl (ms.map N)).toP.depth ≤ 64 := Nat.le_trans l2 (by decide)
    simp [l1, this]
  have e3 : (W.vl (ms.map N)).toP = .list (ms.map fun (m : Nat) => .int (m : Int)) := by rw [W.toP, toPs_map]; rfl
  rw [e3] at hs
  have hs0 : SeqAt.shaped (.list []) = true := rfl
  have e4 : dataEq S (.ref r) (.vl []) = some (decide (ms = [])) := by
    unfold dataEq
    simp only [e1, e2, hs, hs0, Bool.and_self, if_true]
    cases ms with
    | nil => rfl
    | cons m ms => rfl
  unfold eqT eqT0
  rw [e4]
  rfl
end Zv

set_option maxRecDepth 100000
set_option maxHeartbeats 8000000
/-! L25e: the walk through _law_near. -/
namespace Zv
open PySem
section
variable {G : Prg} (P : Pg G) (T : PgC G) {st : Sto} {k : Nat}
include P T
theorem c_near (f_near : G.fn "_law_near" = some F_near25) (k_near : G.keep "_law_near" = false) {i d : Nat} {tk : List W} {x : Sp} (hi : i < st.length) (ht : Pk tk d) (hd : d + 30 < 2 ^ 64) (hx : x.Ok (10 ^ 17)) (hu : x.u < 10 ^ 16) :
    ∃ (y : Sp) (tk' : List W), y.Ok (10 ^ 18) ∧ Pk tk' (d + 30) ∧ callK G (k + 4) "_law_near" [.ref i, x.w] (st.set i (.lst tk)) = .ok y.w (st.set i (.lst tk')) := by
  rw [call_fn f_near rfl rfl, k_near]
  have TP := T.toPgP
  have hl8 := hx.len
  have hsu := hx.su
  have hu0 := hx.u0
  have i1 : ∀ S : Sto, prim .ix [x.w, .int 1] S = .ok (.vl (x.ms.map N)) S := fun S => by simp only [Sp.w, p_ixT, at1]
  have i0 : ∀ S : Sto, prim .ix [x.w, .int 0] S = .ok (.int x.u) S := fun S => by simp only [Sp.w, p_ixT, at0]
  have i2 : ∀ S : Sto, prim .ix [x.w, .int 2] S = .ok (.int x.s) S := fun S => by simp only [Sp.w, p_ixT, at2]
  obtain ⟨r1, tk1, h1, t1, e1⟩ := c_draw TP (k := k + 2) (st := st) (many := 6) hi ht (by omega) (by decide) (by decide +kernel)
  have e1 : callK G (k + 3) "_law_draw" [.ref i, .int 6] (st.set i (.lst tk)) = .ok (.int (r1 : Int)) (st.set i (.lst tk1)) := e1
  have gcP : ∀ (w : W) (tk' : List W) (g : Sto) (d' : Nat), Pk tk' d' → w.rlt st.length = true → gcR false (st.set i (.lst tk)) (.ok w (st.set i (.lst tk') ++ g)) = .ok w (st.set i (.lst tk')) := fun w tk' g d' h hw => by
    have := gc_pool (b := false) (S := st.set i (.lst tk)) (g := g) (i := i) (o := .lst tk') (w := w) (pk_rlt h) (by rw [List.length_set]; exact hw)
    rw [List.set_set] at this
    exact this
  have gcT : ∀ (tk' : List W) (g : Sto) (d' r : Nat) (a c : Int) (ms : List Nat), Pk tk' d' → st.length ≤ r → (st.set i (.lst tk') ++ g)[r]? = some (.lst (ms.map N)) → gcR false (st.set i (.lst tk)) (.ok (.tup [.int a, .ref r, .int c]) (st.set i (.lst tk') ++ g)) = .ok (.tup [.int a, .vl (ms.map N), .int c]) (st.set i (.lst tk')) := fun tk' g d' r a c ms h hr hg => by
    have := gc_tref2 (S := st.set i (.lst tk)) (g := g) (i := i) (r := r) (o := .lst tk') (a := .int a) (c := .int c) (xs := ms.map N) (pk_rlt h) rfl rfl (fun z hz => by obtain ⟨m, _, rfl⟩ := List.mem_map.mp hz; rfl) (by rw [List.length_set]; exact hr) (by rw [List.set_set]; exact hg)
    rw [List.set_set] at this
    exact this
  have sa : ∀ (tk' : List W) (g : Sto), (st ++ g).set i (.lst tk') = st.set i (.lst tk') ++ g := fun tk' g => by rw [List.set_append_left _ _ hi]
  have mu : mulOk 2 (x.u : Int) = true := mul_ok (n := 2) (m := 60) (by decide) (by simp; omega) (by decide)
  have ms' : mulOk 2 (x.s : Int) = true := mul_ok (n := 2) (m := 60) (by decide) (by simp; omega) (by decide)
  have cu : (2 : Int) * (x.u : Int) = ((2 * x.u : Nat) : Int) := by omega
  have cs : (2 : Int) * (x.s : Int) = ((2 * x.s : Nat) : Int) := by omega
  simp only [F_near25, start_, List.map_cons, List.map_nil, List.length_cons, List.length_nil, Nat.reduceAdd, Nat.reduceSub, List.replicate, List.cons_append, List.nil_append, List.append_nil, Nat.sub_self]
  rw [q_exs1]
  simp only [q_set, q_unp, q_ret, q_exp, q_ife, q_op, q_evs1, q_evs0, q_var, q_con, q_call, q_ite, q_and, q_or, q_not, q_eqo, List.getElem?_cons_zero, List.getElem?_cons_succ, q_bindok, q_ofok, List.set_cons_succ, List.set_cons_zero, q_nextnx, q_nextrt, q_trut, q_truf, q_truSt, q_truSf, p_tup, p_lst, mkLf, mkLt, List.length_cons, List.length_nil, Nat.reduceAdd, Nat.reduceLeDiff, if_true, put_tp, puts1, puts0, put_nm, p_addI, p_subI, p_ltI, p_leI, p_gtI, p_geI, p_lenL, p_lenT, p_ixL, p_ixT, q_lc, q_iseq, q_irng1, q_irng2, seqL, seqT, wipeE, noErr_ok, q_exs0, szL, e1, i1, List.length_map]
  rw [q_exs1]
  simp only [q_set, q_unp, q_ret, q_exp, q_ife, q_op, q_evs1, q_evs0, q_var, q_con, q_call, q_ite, q_and, q_or, q_not, q_eqo, List.getElem?_cons_zero, List.getElem?_cons_succ, q_bindok, q_ofok, List.set_cons_succ, List.set_cons_zero, q_nextnx, q_nextrt, q_trut, q_truf, q_truSt, q_truSf, p_tup, p_lst, mkLf, mkLt, List.length_cons, List.length_nil, Nat.reduceAdd, Nat.reduceLeDiff, if_true, put_tp, puts1, puts0, put_nm, p_addI, p_subI, p_ltI, p_leI, p_gtI, p_geI, p_lenL, p_lenT, p_ixL, p_ixT, q_lc, q_iseq, q_irng1, q_irng2, seqL, seqT, wipeE, noErr_ok, q_exs0, szL, i0, i2, p_mulI, mu, ms', cu, cs]
  rw [q_exs1]
  simp only [q_set, q_lc, q_iseq, q_op, q_evs1, q_evs0, q_var, q_con, List.getElem?_cons_zero, List.getElem?_cons_succ, q_bindok, i1, seqL, List.length_map, show x.ms.length ≤ szL from Nat.le_trans hl8 (by decide), if_true, wipeE, List.set_cons_succ, List.set_cons_zero]
  rw [lcE_map (g := N) (h := fun m => N (2 * m)) rfl x.ms [] (fun m hm => ⟨_, rfl, rfl, by
    have hb := hx.mb m hm
    have q : mulOk 2 (m : Int) = true := mul_ok (n := 2) (m := 60) (by decide) (by simp; omega) (by decide)
    simp only [q_set, q_unp, q_ret, q_exp, q_ife, q_op, q_evs1, q_evs0, q_var, q_con, q_call, q_ite, q_and, q_or, q_not, q_eqo, List.getElem?_cons_zero, List.getElem?_cons_succ, q_bindok, q_ofok, List.set_cons_succ, List.set_cons_zero, q_nextnx, q_nextrt, q_trut, q_truf, q_truSt, q_truSf, p_tup, p_lst, mkLf, mkLt, List.length_cons, List.length_nil, Nat.reduceAdd, Nat.reduceLeDiff, if_true, put_tp, puts1, puts0, put_nm, p_addI, p_subI, p_ltI, p_leI, p_gtI, p_geI, p_lenL, p_lenT, p_ixL, p_ixT, q_lc, q_iseq, q_irng1, q_irng2, seqL, seqT, wipeE, noErr_ok, q_exs0, p_mulI, q]
    congr 2, rfl⟩)]
  have len1 : (st.set i (Ob.lst tk1)).length = st.length := List.length_set
  have edbl : (x.ms.map fun m => N (2 * m)) = (x.ms.map fun m => 2 * m).map N := by rw [List.map_map]; rfl
  simp only [q_bindok, List.nil_append, mkLt, noErr_ok, q_ofok, List.set_cons_succ, List.set_cons_zero, q_nextnx, len1]
  rw [edbl]
  generalize hD : (x.ms.map fun m => 2 * m).map N = D
  rw [q_exs1]
  simp only [q_ife, q_eqo, q_var, q_con, List.getElem?_cons_zero, List.getElem?_cons_succ, q_bindok, eqT_int, Bool.false_eq_true, if_false, q_ofok]
  by_cases w0 : r1 = 0
  · subst w0
    rw [decide_eq_true (show ((0 : Nat) : Int) = 0 from rfl), q_truSt]
    obtain ⟨y, tk2, hy, hyu, t2, e2⟩ := c_lrule P T (k := k) (st := st ++ [.lst D]) (i := i) (bs := [1, 2, 3, 10]) (by simp; omega) t1 (by omega) (by decide) (by decide) (fun b hb => by simp at hb; rcases hb with rfl | rfl | rfl | rfl <;> decide)
    rw [sa, sa] at e2
    have e2 : callK G (k + 3) "_law_rule" [.ref i, .vl [.int 1, .int 2, .int 3, .int 10]] (st.set i (.lst tk1) ++ [.lst D]) = .ok y.w (st.set i (.lst tk2) ++ [.lst D]) := e2
    refine ⟨y, tk2, hy.up (by decide), t2.mono (by omega), ?_⟩
    rw [q_exs1]
    simp only [q_set, q_unp, q_ret, q_exp, q_ife, q_op, q_evs1, q_evs0, q_var, q_con, q_call, q_ite, q_and, q_or, q_not, q_eqo, List.getElem?_cons_zero, List.getElem?_cons_succ, q_bindok, q_ofok, List.set_cons_succ, List.set_cons_zero, q_nextnx, q_nextrt, q_trut, q_truf, q_truSt, q_truSf, p_tup, p_lst, mkLf, mkLt, List.length_cons, List.length_nil, Nat.reduceAdd, Nat.reduceLeDiff, if_true, put_tp, puts1, puts0, put_nm, p_addI, p_subI, p_ltI, p_leI, p_gtI, p_geI, p_lenL, p_lenT, p_ixL, p_ixT, q_lc, q_iseq, q_irng1, q_irng2, seqL, seqT, wipeE, noErr_ok, q_exs0, szL, e2, q_finrt]
    refine gcP _ _ _ _ t2 ?_
    show W.rlts st.length [_, .vl _, _] = true
    have : W.rlts st.length (y.ms.map N) = true := rlts_map (fun _ => rfl) _
    simp [this]
  rw [decide_eq_false (show ¬ ((r1 : Nat) : Int) = 0 by omega), q_truSf]
  simp only [q_exs0, q_nextnx]
  have gD : ∀ tk' : List W, (st.set i (.lst tk') ++ [Ob.lst D])[st.length]? = some (.lst D) := fun tk' => by rw [List.getElem?_append_right (by simp)]; simp
  rw [q_exs1]
  simp only [q_ife, q_and, q_eqo, q_op, q_evs1, q_evs0, q_var, q_con, List.getElem?_cons_zero, List.getElem?_cons_succ, q_bindok, eqT_int, Bool.false_eq_true, if_false, p_ltI]
  by_cases w1 : r1 = 1 ∧ 2 * x.s < 2 * x.u
  · obtain ⟨rfl, hlt⟩ := w1
    rw [decide_eq_true (show ((1 : Nat) : Int) = 1 from rfl), q_trut, decide_eq_true (show ((2 * x.s : Nat) : Int) < ((2 * x.u : Nat) : Int) by omega)]
    simp only [q_ofok, q_truSt]
    obtain ⟨r2, tk2, h2, t2, e2⟩ := c_draw TP (k := k + 2) (st := st ++ [.lst D]) (i := i) (many := min (2 * x.u - 2 * x.s) 1000000) (by simp; omega) t1 (by omega) (by omega) (Nat.lt_of_le_of_lt (m := 1000001) (by omega) (by decide +kernel))
    rw [sa, sa] at e2
    have hmin : (if ((1000000 : Nat) : Int) < ((2 * x.u : Nat) : Int) - ((2 * x.s : Nat) : Int) then ((1000000 : Nat) : Int) else ((2 * x.u : Nat) : Int) - ((2 * x.s : Nat) : Int)) = ((min (2 * x.u - 2 * x.s) 1000000 : Nat) : Int) := by split <;> omega
    refine ⟨_, tk2, ok_up hx hu (c := 1 + r2) (by omega), t2.mono (by omega), ?_⟩
    rw [q_exs1]
    simp only [q_set, q_unp, q_ret, q_exp, q_ife, q_op, q_evs1, q_evs0, q_var, q_con, q_call, q_ite, q_and, q_or, q_not, q_eqo, List.getElem?_cons_zero, List.getElem?_cons_succ, q_bindok, q_ofok, List.set_cons_succ, List.set_cons_zero, q_nextnx, q_nextrt, q_trut, q_truf, q_truSt, q_truSf, p_tup, p_lst, mkLf, mkLt, List.length_cons, List.length_nil, Nat.reduceAdd, Nat.reduceLeDiff, if_true, put_tp, puts1, puts0, put_nm, p_addI, p_subI, p_ltI, p_leI, p_gtI, p_geI, p_lenL, p_lenT, p_ixL, p_ixT, q_lc, q_iseq, q_irng1, q_irng2, seqL, seqT, wipeE, noErr_ok, q_exs0, pow6, p_min, hmin, e2]
    rw [q_exs1]
    have sq : seqItm (.ref st.length) (st.set i (.lst tk2) ++ [.lst D]) = .ok ⟨D, [(st.length, D)]⟩ (st.set i (.lst tk2) ++ [.lst D]) := by
      simp only [seqItm, items, gD]
      rfl
    have hlD : D.length ≤ szL := by rw [← hD]; simp [szL]; omega
    have chk : Itm.chk ⟨D, [(st.length, D)]⟩ (st.set i (.lst tk2) ++ [.lst D]) = true := by
      simp [Itm.chk, items, gD, W.beqs_refl]
    simp only [q_ret, q_op, q_evs1, q_evs0, q_var, q_lc, q_iseq, List.getElem?_cons_zero, List.getElem?_cons_succ, q_bindok, sq, hlD, if_true, wipeE, List.set_cons_succ, List.set_cons_zero, p_addI]
    have lc := lcE_map (G := G) (cl := callK G (k + 3)) (t := .nm 7) (env := [some (.ref i), some x.w, some (.int ((1 : Nat) : Int)), some (.int (x.ms.length : Int)), some (.int ((2 * x.u : Nat) : Int)), some (.int ((2 * x.s : Nat) : Int)), some (.ref st.length), none, some (.int (1 + (r2 : Int))), none, none]) (cs := []) (e := .op .add [.var 7, .var 8]) (I := ⟨D, [(st.length, D)]⟩) (st := st.set i (.lst tk2) ++ [.lst D]) (g := N) (h := fun m => N (m + (1 + r2))) chk (x.ms.map fun m => 2 * m) [] (fun m hm => ⟨_, rfl, rfl, by
      simp only [q_set, q_unp, q_ret, q_exp, q_ife, q_op, q_evs1, q_evs0, q_var, q_con, q_call, q_ite, q_and, q_or, q_not, q_eqo, List.getElem?_cons_zero, List.getElem?_cons_succ, q_bindok, q_ofok, List.set_cons_succ, List.set_cons_zero, q_nextnx, q_nextrt, q_trut, q_truf, q_truSt, q_truSf, p_tup, p_lst, mkLf, mkLt, List.length_cons, List.length_nil, Nat.reduceAdd, Nat.reduceLeDiff, if_true, put_tp, puts1, puts0, put_nm, p_addI, p_subI, p_ltI, p_leI, p_gtI, p_geI, p_lenL, p_lenT, p_ixL, p_ixT, q_lc, q_iseq, q_irng1, q_irng2, seqL, seqT, wipeE, noErr_ok, q_exs0]
      congr 2, rfl⟩)
    rw [hD] at lc
    rw [lc]
    simp only [q_set, q_unp, q_ret, q_exp, q_ife, q_op, q_evs1, q_evs0, q_var, q_con, q_call, q_ite, q_and, q_or, q_not, q_eqo, List.getElem?_cons_zero, List.getElem?_cons_succ, q_bindok, q_ofok, List.set_cons_succ, List.set_cons_zero, q_nextnx, q_nextrt, q_trut, q_truf, q_truSt, q_truSf, p_tup, p_lst, mkLf, mkLt, List.length_cons, List.length_nil, Nat.reduceAdd, Nat.reduceLeDiff, if_true, put_tp, puts1, puts0, put_nm, p_addI, p_subI, p_ltI, p_leI, p_gtI, p_geI, p_lenL, p_lenT, p_ixL, p_ixT, q_lc, q_iseq, q_irng1, q_irng2, seqL, seqT, wipeE, noErr_ok, q_exs0, szL, List.nil_append, q_finrt]
    rw [gcP _ _ _ _ t2 (by
      show W.rlts st.length [_, .vl _, _] = true
      have : W.rlts st.length ((x.ms.map fun m => 2 * m).map fun m => N (m + (1 + r2))) = true := rlts_map (fun _ => rfl) _
      simp only [rlts_cons, rlt_int, rlt_vl, this, rlts_nil, Bool.and_self])]
    show R.ok (W.tup _) _ = .ok (W.tup _) _
    have c1 : ((2 * x.s : Nat) : Int) + (1 + (r2 : Int)) = ((2 * x.s + (1 + r2) : Nat) : Int) := by omega
    rw [c1]
    congr 4
    simp only [List.map_map, Function.comp_def]
  have c1 : ∀ S : Sto, tru (.bl (decide (((r1 : Nat) : Int) = 1))) (.ok (.bl (decide (((2 * x.s : Nat) : Int) < ((2 * x.u : Nat) : Int)))) S) (.ok (.bl false) S) = .ok (.bl false) S := fun S => by
    by_cases a : r1 = 1
    · have b : ¬ (2 * x.s < 2 * x.u) := fun b => w1 ⟨a, b⟩
      rw [decide_eq_true (show ((r1 : Nat) : Int) = 1 by omega), q_trut, decide_eq_false (show ¬ ((2 * x.s : Nat) : Int) < ((2 * x.u : Nat) : Int) by omega)]
    · rw [decide_eq_false (show ¬ ((r1 : Nat) : Int) = 1 by omega), q_truf]
  simp only [c1, q_ofok, q_truSf, q_exs0, q_nextnx]
  rw [q_exs1]
  simp only [q_ife, q_and, q_eqo, q_op, q_evs1, q_evs0, q_var, q_con, List.getElem?_cons_zero, List.getElem?_cons_succ, q_bindok, eqT_int, Bool.false_eq_true, if_false, p_ltI]
  by_cases w2 : r1 = 2 ∧ 2 * x.s < 2 * x.u
  · obtain ⟨rfl, hlt⟩ := w2
    rw [decide_eq_true (show ((2 : Nat) : Int) = 2 from rfl), q_trut, decide_eq_true (show ((2 * x.s : Nat) : Int) < ((2 * x.u : Nat) : Int) by omega)]
    simp only [q_ofok, q_truSt]
    have oky := ok_ext hx hu (M := x.ms.length) (Nat.le_refl _) hl8 (t := 2 * x.s + 1) (by omega) (by omega)
    rw [← dbl_at] at oky
    refine ⟨_, tk1, oky, t1.mono (by omega), ?_⟩
    rw [q_exs1]
    simp only [q_set, q_unp, q_ret, q_exp, q_ife, q_op, q_evs1, q_evs0, q_var, q_con, q_call, q_ite, q_and, q_or, q_not, q_eqo, List.getElem?_cons_zero, List.getElem?_cons_succ, q_bindok, q_ofok, List.set_cons_succ, List.set_cons_zero, q_nextnx, q_nextrt, q_trut, q_truf, q_truSt, q_truSf, p_tup, p_lst, mkLf, mkLt, List.length_cons, List.length_nil, Nat.reduceAdd, Nat.reduceLeDiff, if_true, put_tp, puts1, puts0, put_nm, p_addI, p_subI, p_ltI, p_leI, p_gtI, p_geI, p_lenL, p_lenT, p_ixL, p_ixT, q_lc, q_iseq, q_irng1, q_irng2, seqL, seqT, wipeE, noErr_ok, q_exs0, szL, q_finrt]
    rw [← hD, gcT _ _ _ _ _ _ _ t1 (Nat.le_refl _) (by rw [hD]; exact gD tk1)]
    rfl
  have c2 : ∀ S : Sto, tru (.bl (decide (((r1 : Nat) : Int) = 2))) (.ok (.bl (decide (((2 * x.s : Nat) : Int) < ((2 * x.u : Nat) : Int)))) S) (.ok (.bl false) S) = .ok (.bl false) S := fun S => by
    by_cases a : r1 = 2
    · have b : ¬ (2 * x.s < 2 * x.u) := fun b => w2 ⟨a, b⟩
      rw [decide_eq_true (show ((r1 : Nat) : Int) = 2 by omega), q_trut, decide_eq_false (show ¬ ((2 * x.s : Nat) : Int) < ((2 * x.u : Nat) : Int) by omega)]
    · rw [decide_eq_false (show ¬ ((r1 : Nat) : Int) = 2 by omega), q_truf]
  simp only [c2, q_ofok, q_truSf, q_exs0, q_nextnx]
  obtain ⟨r3, tk3, h3, t3, e3⟩ := c_draw TP (k := k + 2) (st := st ++ [.lst D]) (i := i) (many := 9) (by simp; omega) t1 (by omega) (by decide) (by decide +kernel)
  rw [sa, sa] at e3
  have e3 : callK G (k + 3) "_law_draw" [.ref i, .int 9] (st.set i (.lst tk1) ++ [.lst D]) = .ok (.int (r3 : Int)) (st.set i (.lst tk3) ++ [.lst D]) := e3
  rw [q_exs1]
  simp only [q_set, q_unp, q_ret, q_exp, q_ife, q_op, q_evs1, q_evs0, q_var, q_con, q_call, q_ite, q_and, q_or, q_not, q_eqo, List.getElem?_cons_zero, List.getElem?_cons_succ, q_bindok, q_ofok, List.set_cons_succ, List.set_cons_zero, q_nextnx, q_nextrt, q_trut, q_truf, q_truSt, q_truSf, p_tup, p_lst, mkLf, mkLt, List.length_cons, List.length_nil, Nat.reduceAdd, Nat.reduceLeDiff, if_true, put_tp, puts1, puts0, put_nm, p_addI, p_subI, p_ltI, p_leI, p_gtI, p_geI, p_lenL, p_lenT, p_ixL, p_ixT, q_lc, q_iseq, q_irng1, q_irng2, seqL, seqT, wipeE, noErr_ok, q_exs0, e3]
  generalize hM : max x.ms.length r3 = M
  have hM1 : x.ms.length ≤ M := by omega
  have hM8 : M ≤ 8 := by omega
  have it : ∀ S : Sto, rngItm2 (.int (x.ms.length : Int)) (.int (if (r3 : Int) > (x.ms.length : Int) then (r3 : Int) else (x.ms.length : Int))) S = .ok ⟨(List.range (M - x.ms.length)).map fun j : Nat => .int ((x.ms.length : Int) + (j : Int)), []⟩ S := fun S => by
    have hmax : (if (r3 : Int) > (x.ms.length : Int) then (r3 : Int) else (x.ms.length : Int)) = (M : Int) := by split <;> omega
    rw [hmax]
    have q1 : inL (x.ms.length : Int) = true := by unfold inL; exact decide_eq_true (by omega)
    have q2 : inL (M : Int) = true := by unfold inL; exact decide_eq_true (by omega)
    have q3 : ((M : Int) - (x.ms.length : Int)).toNat = M - x.ms.length := by omega
    simp only [rngItm2, q1, q2, Bool.and_self, if_true, q3]
    rfl
  generalize hE : (List.range (M - x.ms.length)).map (fun j => 2 * x.u * (x.ms.length + j) + 2 * x.s) = E
  rw [q_exs1]
  simp only [q_set, q_op, q_evs1, q_evs0, q_var, q_lc, q_irng2, List.getElem?_cons_zero, List.getElem?_cons_succ, q_bindok, p_max, it, List.length_map, List.length_range, show M - x.ms.length ≤ szL from Nat.le_trans (show M - x.ms.length ≤ 8 by omega) (by decide), if_true, wipeE, List.set_cons_succ, List.set_cons_zero]
  rw [lcE_map (g := fun j : Nat => .int ((x.ms.length : Int) + (j : Int))) (h := fun j => N (2 * x.u * (x.ms.length + j) + 2 * x.s)) rfl (List.range (M - x.ms.length)) [] (fun j hj => ⟨_, rfl, rfl, by
    have hj : j < M - x.ms.length := List.mem_range.mp hj
    have cj : (x.ms.length : Int) + (j : Int) = ((x.ms.length + j : Nat) : Int) := by omega
    have q : mulOk ((2 * x.u : Nat) : Int) ((x.ms.length + j : Nat) : Int) = true := mul_ok (n := 60) (m := 10) (by rw [Int.natAbs_natCast]; omega) (by rw [Int.natAbs_natCast]; omega) (by decide)
    simp only [q_set, q_unp, q_ret, q_exp, q_ife, q_op, q_evs1, q_evs0, q_var, q_con, q_call, q_ite, q_and, q_or, q_not, q_eqo, List.getElem?_cons_zero, List.getElem?_cons_succ, q_bindok, q_ofok, List.set_cons_succ, List.set_cons_zero, q_nextnx, q_nextrt, q_trut, q_truf, q_truSt, q_truSf, p_tup, p_lst, mkLf, mkLt, List.length_cons, List.length_nil, Nat.reduceAdd, Nat.reduceLeDiff, if_true, put_tp, puts1, puts0, put_nm, p_addI, p_subI, p_ltI, p_leI, p_gtI, p_geI, p_lenL, p_lenT, p_ixL, p_ixT, q_lc, q_iseq, q_irng1, q_irng2, seqL, seqT, wipeE, noErr_ok, q_exs0, p_addmI, cj, p_mulI, q]
    congr 2, rfl⟩)]
  have eE : ((List.range (M - x.ms.length)).map fun j => N (2 * x.u * (x.ms.length + j) + 2 * x.s)) = E.map N := by rw [← hE, List.map_map]; rfl
  have len3 : (st.set i (Ob.lst tk3) ++ [Ob.lst D]).length = st.length + 1 := by simp
  simp only [q_bindok, List.nil_append, mkLt, noErr_ok, len3, eE]
  generalize hL : (List.range M).map (fun j => 2 * x.at j) = L
  have hDE : D ++ E.map N = L.map N := by
    rw [← hD, ← hE, ← List.map_append, more_at hM1, hL]
  have hLl : L.length = M := by rw [← hL]; simp
  have pa : prim .addm [.ref st.length, .ref (st.length + 1)] (st.set i (.lst tk3) ++ [.lst D] ++ [.lst (E.map N)]) = .ok (.ref (st.length + 2)) (st.set i (.lst tk3) ++ [.lst D, .lst (E.map N), .lst (L.map N)]) := by
    show pAddM (.ref st.length) (.ref (st.length + 1)) _ = _
    have g1 : (st.set i (.lst tk3) ++ [Ob.lst D] ++ [.lst (E.map N)])[st.length]? = some (.lst D) := by
      rw [List.append_assoc, List.getElem?_append_right (by simp)]; simp
    have g2 : (st.set i (.lst tk3) ++ [Ob.lst D] ++ [.lst (E.map N)])[st.length + 1]? = some (.lst (E.map N)) := by
      rw [List.append_assoc, List.getElem?_append_right (by simp)]; simp
    have hlen : D.length + (E.map N).length ≤ szL := by
      have := congrArg List.length hDE
      simp only [List.length_append, List.length_map, hLl] at this
      simp only [List.length_map, szL]
      omega
    simp only [pAddM, lstOf, g1, g2, hlen, if_true, new, hDE]
    simp
  simp only [pa, q_bindok, q_ofok, List.set_cons_succ, List.set_cons_zero, q_nextnx]
  have gL : ∀ (tk' : List W) (A B : Ob) (L' : List W), (st.set i (.lst tk') ++ [A, B, .lst L'])[st.length + 2]? = some (.lst L') := fun tk' A B L' => by
    rw [List.getElem?_append_right (by simp)]; simp
  have fini : ∀ (tk' : List W) (d' : Nat) (L' : List Nat), Pk tk' d' → gcR false (st.set i (.lst tk)) (.ok (.tup [.int ((2 * x.u : Nat) : Int), .ref (st.length + 2), .int ((2 * x.s : Nat) : Int)]) (st.set i (.lst tk') ++ [.lst D, .lst (E.map N), .lst (L'.map N)])) = .ok (Sp.w ⟨2 * x.u, L', 2 * x.s⟩) (st.set i (.lst tk')) := fun tk' d' L' h => gcT tk' _ d' (st.length + 2) _ _ L' h (by omega) (gL tk' _ _ _)
  rw [q_exs1]
  simp only [q_ife, q_or, q_eqo, q_op, q_evs1, q_evs0, q_var, q_con, List.getElem?_cons_zero, List.getElem?_cons_succ, q_bindok, eqT_int, Bool.false_eq_true, if_false, p_lst, List.length_nil, Nat.zero_le, if_true, mkLf, eq_nilR (gL tk3 _ _ _)]
  by_cases w3 : r1 = 3 ∨ L = []
  · have c3 : ∀ S : Sto, tru (.bl (decide (((r1 : Nat) : Int) = 3))) (.ok (.bl true) S) (.ok (.bl (decide (L = []))) S) = .ok (.bl true) S := fun S => by
      by_cases a : r1 = 3
      · rw [decide_eq_true (show ((r1 : Nat) : Int) = 3 by omega), q_trut]
      · have b : L = [] := by rcases w3 with h | h; exact absurd h a; exact h
        rw [decide_eq_false (show ¬ ((r1 : Nat) : Int) = 3 by omega), q_truf, decide_eq_true b]
    simp only [c3, q_ofok, q_truSt]
    have oky := ok_ext hx hu hM1 hM8 (t := 2 * x.s) (Nat.le_refl _) (by omega)
    rw [hL] at oky
    refine ⟨_, tk3, oky, t3.mono (by omega), ?_⟩
    rw [q_exs1]
    simp only [q_set, q_unp, q_ret, q_exp, q_ife, q_op, q_evs1, q_evs0, q_var, q_con, q_call, q_ite, q_and, q_or, q_not, q_eqo, List.getElem?_cons_zero, List.getElem?_cons_succ, q_bindok, q_ofok, List.set_cons_succ, List.set_cons_zero, q_nextnx, q_nextrt, q_trut, q_truf, q_truSt, q_truSf, p_tup, p_lst, mkLf, mkLt, List.length_cons, List.length_nil, Nat.reduceAdd, Nat.reduceLeDiff, if_true, put_tp, puts1, puts0, put_nm, p_addI, p_subI, p_ltI, p_leI, p_gtI, p_geI, p_lenL, p_lenT, p_ixL, p_ixT, q_lc, q_iseq, q_irng1, q_irng2, seqL, seqT, wipeE, noErr_ok, q_exs0, szL, q_finrt]
    exact fini tk3 _ L t3
  have n3 : ¬ r1 = 3 := fun h => w3 (.inl h)
  have nL : ¬ L = [] := fun h => w3 (.inr h)
  rw [decide_eq_false (show ¬ ((r1 : Nat) : Int) = 3 by omega), q_truf, decide_eq_false nL]
  simp only [q_ofok, q_truSf, q_exs0, q_nextnx]
  have hMp : 0 < M := by
    rw [← hLl]
    exact List.length_pos_iff.mpr nL
  obtain ⟨a5, tk5, h5, t5, e5⟩ := c_draw TP (k := k + 2) (st := st ++ [.lst D, .lst (E.map N), .lst (L.map N)]) (i := i) (many := M) (by simp; omega) t3 (by omega) hMp (Nat.lt_of_le_of_lt (m := 8) (by omega) (by decide +kernel))
  rw [sa, sa] at e5
  have pl : ∀ (tk' : List W), prim .len [.ref (st.length + 2)] (st.set i (.lst tk') ++ [.lst D, .lst (E.map N), .lst (L.map N)]) = .ok (.int (M : Int)) (st.set i (.lst tk') ++ [.lst D, .lst (E.map N), .lst (L.map N)]) := fun tk' => by
    show pLen (.ref (st.length + 2)) _ = _
    simp only [pLen, items, gL, List.length_map, hLl]
  rw [q_exs1]
  simp only [q_set, q_unp, q_ret, q_exp, q_ife, q_op, q_evs1, q_evs0, q_var, q_con, q_call, q_ite, q_and, q_or, q_not, q_eqo, List.getElem?_cons_zero, List.getElem?_cons_succ, q_bindok, q_ofok, List.set_cons_succ, List.set_cons_zero, q_nextnx, q_nextrt, q_trut, q_truf, q_truSt, q_truSf, p_tup, p_lst, mkLf, mkLt, List.length_cons, List.length_nil, Nat.reduceAdd, Nat.reduceLeDiff, if_true, put_tp, puts1, puts0, put_nm, p_addI, p_subI, p_ltI, p_leI, p_gtI, p_geI, p_lenL, p_lenT, p_ixL, p_ixT, q_lc, q_iseq, q_irng1, q_irng2, seqL, seqT, wipeE, noErr_ok, q_exs0, pl, e5]
  have hLa : L[a5]? = some (2 * x.at a5) := by rw [← hL, List.getElem?_map, List.getElem?_range h5]; rfl
  have ixL : ∀ tk' : List W, prim .ix [.ref (st.length + 2), .int (a5 : Int)] (st.set i (.lst tk') ++ [.lst D, .lst (E.map N), .lst (L.map N)]) = .ok (N (2 * x.at a5)) (st.set i (.lst tk') ++ [.lst D, .lst (E.map N), .lst (L.map N)]) := fun tk' => by
    show pIx (.ref (st.length + 2)) (.int (a5 : Int)) _ = _
    have e : L2.atI (L.map N) (a5 : Int) = some (N (2 * x.at a5)) := by
      rw [at_nat (by rw [List.length_map, hLl]; exact h5), List.getElem?_map, hLa]; rfl
    simp only [pIx, items, gL, e]
  have ixn : L2.ixN M (a5 : Int) = some a5 := by
    unfold L2.ixN
    rw [if_pos (by omega), if_pos (by omega)]
    simp
  have setL : ∀ (tk' : List W) (L' : List W), (st.set i (.lst tk') ++ [Ob.lst D, .lst (E.map N), .lst (L.map N)]).set (st.length + 2) (.lst L') = st.set i (.lst tk') ++ [.lst D, .lst (E.map N), .lst L'] := fun tk' L' => by
    rw [List.set_append_right _ _ (by simp)]
    simp
  -- what is stored
  obtain ⟨m, hm, em⟩ : ∃ m : Nat, (m = 2 * x.at a5 + 1 ∨ (2 * x.at a5 ≠ 0 ∧ m = 2 * x.at a5 - 1)) ∧ ev G (callK G (k + 3)) (.ite (.or (.eqo false (.var 2) (.con (.int (4)))) (.eqo false (.op .ix [.var 6, .var 10]) (.con (.int (0))))) (.op .add [.op .ix [.var 6, .var 10], .con (.int (1))]) (.op .sub [.op .ix [.var 6, .var 10], .con (.int (1))])) [some (.ref i), some x.w, some (.int (r1 : Int)), some (.int (x.ms.length : Int)), some (.int ((2 * x.u : Nat) : Int)), some (.int ((2 * x.s : Nat) : Int)), some (.ref (st.length + 2)), none, none, some (.int (r3 : Int)), some (.int (a5 : Int))] (st.set i (.lst tk5) ++ [.lst D, .lst (E.map N), .lst (L.map N)]) = .ok (N m) (st.set i (.lst tk5) ++ [.lst D, .lst (E.map N), .lst (L.map N)]) := by
    by_cases a : r1 = 4
    · refine ⟨2 * x.at a5 + 1, .inl rfl, ?_⟩
      simp only [q_ite, q_or, q_eqo, q_op, q_evs1, q_evs0, q_var, q_con, List.getElem?_cons_zero, List.getElem?_cons_succ, q_bindok, eqT_int, Bool.false_eq_true, if_false, decide_eq_true (show ((r1 : Nat) : Int) = 4 by omega), q_trut, ixL, p_addI]
      congr 2
    · by_cases b : 2 * x.at a5 = 0
      · refine ⟨2 * x.at a5 + 1, .inl rfl, ?_⟩
        simp only [q_ite, q_or, q_eqo, q_op, q_evs1, q_evs0, q_var, q_con, List.getElem?_cons_zero, List.getElem?_cons_succ, q_bindok, eqT_int, Bool.false_eq_true, if_false, decide_eq_false (show ¬ ((r1 : Nat) : Int) = 4 by omega), q_truf, ixL, decide_eq_true (show ((2 * x.at a5 : Nat) : Int) = 0 by omega), q_trut, p_addI]
        congr 2
      · refine ⟨2 * x.at a5 - 1, .inr ⟨b, rfl⟩, ?_⟩
        simp only [q_ite, q_or, q_eqo, q_op, q_evs1, q_evs0, q_var, q_con, List.getElem?_cons_zero, List.getElem?_cons_succ, q_bindok, eqT_int, Bool.false_eq_true, if_false, decide_eq_false (show ¬ ((r1 : Nat) : Int) = 4 by omega), q_truf, ixL, decide_eq_false (show ¬ ((2 * x.at a5 : Nat) : Int) = 0 by omega), p_subI]
        congr 2
        omega
  rw [q_exs1, q_sub, em]
  simp only [q_ofok, q_var, List.getElem?_cons_zero, List.getElem?_cons_succ, gL, List.length_map, hLl, ixn, setL, q_nextnx]
  have oky := ok_bump hx hu hM1 hM8 h5 hm
  rw [hL] at oky
  refine ⟨_, tk5, oky, t5.mono (by omega), ?_⟩
  rw [q_exs1]
  simp only [q_set, q_unp, q_ret, q_exp, q_ife, q_op, q_evs1, q_evs0, q_var, q_con, q_call, q_ite, q_and, q_or, q_not, q_eqo, List.getElem?_cons_zero, List.getElem?_cons_succ, q_bindok, q_ofok, List.set_cons_succ, List.set_cons_zero, q_nextnx, q_nextrt, q_trut, q_truf, q_truSt, q_truSf, p_tup, p_lst, mkLf, mkLt, List.length_cons, List.length_nil, Nat.reduceAdd, Nat.reduceLeDiff, if_true, put_tp, puts1, puts0, put_nm, p_addI, p_subI, p_ltI, p_leI, p_gtI, p_geI, p_lenL, p_lenT, p_ixL, p_ixT, q_lc, q_iseq, q_irng1, q_irng2, seqL, seqT, wipeE, noErr_ok, q_exs0, szL, q_finrt]
  have := fini tk5 _ (L.set a5 m) t5
  rw [List.map_set] at this
  exact this
end
end Zv

set_option maxRecDepth 100000
set_option maxHeartbeats 4000000
/-! CtN: repr of data without texts. -/
namespace Zv
open PySem
mutual
def noStr : PyData → Bool
  | .none => true
  | .bool _ => true
  | .int i => decide (0 ≤ i)
  | .str _ => false
  | .list xs => noStrs xs
  | .tuple xs => noStrs xs
  | .dict _ => false
def noStrs : List PyData → Bool
  | [] => true
  | x :: xs => noStr x && noStrs xs
end
def asc (x : Str) : Prop := ∀ c ∈ x.cps.toList, c < 200
theorem asc_app {a b : Str} (ha : asc a) (hb : asc b) : asc (a ++ b) := fun c hc => by
  rw [tl_app] at hc
  rcases List.mem_append.mp hc with h | h
  · exact ha c h
  · exact hb c h
theorem asc_lit {s : String} (h : ((Str.ofString s).cps.toList.all fun c => decide (c < 200)) = true) : asc (Str.ofString s) := fun c hc => of_decide_eq_true (List.all_eq_true.mp h c hc)
theorem asc_from : ∀ (ts : List Str) (k : Nat) (acc : Str), asc acc → (∀ t ∈ ts, asc t) → asc (textFrom k acc ts)
  | [], _, _, h, _ => h
  | t :: ts, k, acc, h, ht => by
    refine asc_from ts (k + 1) _ ?_ (fun x hx => ht x (by simp [hx]))
    refine asc_app (asc_app h ?_) (ht t (by simp))
    split
    · exact asc_lit (by decide +kernel)
    · exact asc_lit (by decide +kernel)
theorem asc_join (s : Str) (hs : asc s) : ∀ ts : List Str, (∀ t ∈ ts, asc t) → asc (Str.join s ts) := fun ts ht c hc => by
  have := TL.tl_join s ts
  unfold TL.tl at this
  rw [this] at hc
  have key : ∀ us : List (List Nat), (∀ u ∈ us, ∀ c ∈ u, c < 200) → ∀ c ∈ TL.joinL s.cps.toList us, c < 200 := by
    intro us
    induction us with
    | nil => intro _ c hc; simp [TL.joinL] at hc
    | cons u us ih =>
      intro hu c hc
      cases us with
      | nil => exact hu u (by simp) c (by simpa [TL.joinL] using hc)
      | cons v vs =>
        simp only [TL.joinL, List.mem_append] at hc
        rcases hc with h | h | h
        · exact hu u (by simp) c h
        · exact hs c h
        · exact ih (fun x hx => hu x (by simp [hx])) c h
  refine key _ (fun u hu c hc => ?_) c hc
  obtain ⟨t, htt, rfl⟩ := List.mem_map.mp hu
  exact ht t htt c hc
mutual
theorem shown_asc : ∀ d : PyData, noStr d = true → asc d.shown
  | .none, _ => asc_lit (by decide +kernel)
  | .bool b, _ => by cases b <;> exact asc_lit (by decide +kernel)
  | .int i, h => by
    have h0 : 0 ≤ i := by simpa [noStr] using h
    intro c hc
    have e : i = ((i.toNat : Nat) : Int) := by omega
    have hc' : c ∈ (tI ((i.toNat : Nat) : Int)).cps.toList := by rw [← e]; exact hc
    rw [tl_tI] at hc'
    have := num_dig hc'
    omega
  | .str _, h => by simp [noStr] at h
  | .list xs, h => asc_app (asc_from _ _ _ (asc_lit (by decide +kernel)) (shownAll_asc xs h)) (asc_lit (by decide +kernel))
  | .tuple xs, h => by
    refine asc_app (asc_app (asc_lit (by decide +kernel)) (asc_join _ (asc_lit (by decide +kernel)) _ (shownAll_asc xs h))) ?_
    split
    · exact asc_lit (by decide +kernel)
    · exact asc_lit (by decide +kernel)
  | .dict _, h => by simp [noStr] at h
theorem shownAll_asc : ∀ ds : List PyData, noStrs ds = true → ∀ t ∈ PyData.shownAll ds, asc t
  | [], _, t, ht => by simp [PyData.shownAll] at ht
  | d :: ds, h, t, ht => by
    simp only [noStrs, Bool.and_eq_true] at h
    simp only [PyData.shownAll, List.mem_cons] at ht
    rcases ht with rfl | ht
    · exact shown_asc d h.1
    · exact shownAll_asc ds h.2 t ht
end
mutual
def W.nice : W → Bool
  | .non => true
  | .bl _ => true
  | .int i => decide (0 ≤ i) && decide (i.toNat < 10 ^ 42)
  | .tup xs => W.nices xs
  | .vl xs => W.nices xs
  | _ => false
def W.nices : List W → Bool
  | [] => true
  | x :: xs => W.nice x && W.nices xs
end
theorem short_int {i : Int} (h0 : 0 ≤ i) (h : i.toNat < 10 ^ 42) : (PyData.shown (.int i)).length ≤ 42 ∧ i.natAbs.log2 < 1920 := by
  have e : i = ((i.toNat : Nat) : Int) := by omega
  constructor
  · have : (tI ((i.toNat : Nat) : Int)).length ≤ 42 := by rw [len_tl, tl_tI]; exact TL.numL_len (by decide) h
    rw [← e] at this
    exact this
  · have h2 : i.natAbs < 2 ^ 200 := by
      have : (10 : Nat) ^ 42 < 2 ^ 200 := by decide
      omega
    have := log2_lt_of h2
    omega
mutual
theorem nice_ok : ∀ w : W, w.nice = true → noStr w.toP = true ∧ w.toP.showable = true ∧ w.toP.hasDict = false ∧ w.toP.leavesShort 45 = true
  | .non, _ => ⟨rfl, rfl, rfl, rfl⟩
  | .bl _, _ => ⟨rfl, rfl, rfl, rfl⟩
  | .int i, h => by
    simp only [W.nice, Bool.and_eq_true, decide_eq_true_eq] at h
    obtain ⟨s1, s2⟩ := short_int h.1 h.2
    refine ⟨decide_eq_true h.1, decide_eq_true s2, rfl, ?_⟩
    exact decide_eq_true (by omega)
  | .tup xs, h => nices_ok xs h
  | .vl xs, h => nices_ok xs h
  | .str _, h => by simp [W.nice] at h
  | .fzl _, h => by simp [W.nice] at h
  | .obj _ _ _, h => by simp [W.nice] at h
  | .ref _, h => by simp [W.nice] at h
  | .glo _, h => by simp [W.nice] at h
  | .bty _, h => by simp [W.nice] at h
theorem nices_ok : ∀ ws : List W, W.nices ws = true → noStrs (W.toPs ws) = true ∧ PyData.showableAll (W.toPs ws) = true ∧ PyData.hasDictAll (W.toPs ws) = false ∧ PyData.leavesShortAll 45 (W.toPs ws) = true
  | [], _ => ⟨rfl, rfl, rfl, rfl⟩
  | w :: ws, h => by
    simp only [W.nices, Bool.and_eq_true] at h
    obtain ⟨a1, a2, a3, a4⟩ := nice_ok w h.1
    obtain ⟨b1, b2, b3, b4⟩ := nices_ok ws h.2
    refine ⟨?_, ?_, ?_, ?_⟩
    · show (noStr w.toP && noStrs (W.toPs ws)) = true; rw [a1, b1]; rfl
    · show (PyData.showable w.toP && PyData.showableAll (W.toPs ws)) = true; rw [a2, b2]; rfl
    · show (PyData.hasDict w.toP || PyData.hasDictAll (W.toPs ws)) = false; rw [a3, b3]; rfl
    · show (PyData.leavesShort 45 w.toP && PyData.leavesShortAll 45 (W.toPs ws)) = true; rw [a4, b4]; rfl
end
def rp (w : W) : Str := match w with
  | .non => "None"
  | .bl b => if b then "True" else "False"
  | w => w.toP.shown
theorem rp_asc {w : W} (h : w.nice = true) : PyData.strOk (rp w) = true := by
  refine strOk_of ?_
  unfold rp
  split
  · exact shown_asc .none rfl
  · exact shown_asc (.bool _) rfl
  · exact shown_asc _ (nice_ok w h).1
/-- repr of data -/
theorem p_repr {w : W} {S : Sto} (hn : w.nice = true) (hd : W.dat dep w = true) (hw : w.toP.weight ≤ 20000) : prim .repr [w] S = .ok (.str (rp w)) S := by
  show pRepr w S = _
  obtain ⟨a1, a2, a3, a4⟩ := nice_ok w hn
  have len : w.toP.shown.length ≤ szL := by
    have := PyData.shown_le 45 (by decide) w.toP a4
    have : (45 + 2) * w.toP.weight ≤ 47 * 20000 := Nat.mul_le_mul_left _ hw
    simp only [szL]
    omega
  obtain ⟨l1, l2⟩ := lay_dat _ _ hd
  have hs : SeqAt.shaped w.toP = true := by
    unfold SeqAt.shaped
    have : w.toP.depth ≤ 64 := Nat.le_trans l2 (by decide)
    simp [l1, this]
  have ok : reprOk w.toP = true := by
    unfold reprOk
    simp [hs, a2, a3, len]
  cases w with
  | non => rfl
  | bl b => rfl
  | int i =>
    simp only [W.nice, Bool.and_eq_true, decide_eq_true_eq] at hn
    have := (short_int hn.1 hn.2).2
    simp only [pRepr, this, if_true]
    rfl
  | tup xs =>
    have e := toD_dat (st := S) dep _ hd
    have e2 : (W.tup xs).toP = .tuple (W.toPs xs) := rfl
    rw [e2] at e ok
    simp only [pRepr, e, ok, if_true]
    rfl
  | vl xs =>
    have e := toD_dat (st := S) dep _ hd
    have e2 : (W.vl xs).toP = .list (W.toPs xs) := rfl
    rw [e2] at e ok
    simp only [pRepr, e, ok, if_true]
    rfl
  | _ => simp [W.nice] at hn
/-- two texts compared -/
theorem eqT_str {G : Prg} {cl : Cl} {neg : Bool} {S : Sto} {a b : Str} (ha : PyData.strOk a = true) (hb : PyData.strOk b = true) : eqT G cl neg (.str a) (.str b) S = .ok (.bl (if neg then !decide (a = b) else decide (a = b))) S := by
  have a1 : W.dat dep (.str a) = true := ha
  have a2 : W.dat dep (.str b) = true := hb
  rw [eqT_dat a1 a2, eqD_str]
end Zv

set_option maxRecDepth 100000
set_option maxHeartbeats 8000000
/-! L25f: law k25, the walk through _law_right and law. -/
namespace Zv
open PySem
def F_right25 : FnC := { np := 1, star := false, ns := 7, body := [.set 1 (.call "_law_rule" none [.var 0, .op (.lst false) [.con (.int (1)), .con (.int (2)), .con (.int (3)), .con (.int (10)), .con (.int (997)), .op .add [.op .pow [.con (.int (10)), .con (.int (12))], .con (.int (39))]]]), .set 2 (.call "_law_near" none [.var 0, .var 1]), .unp (.tp [.nm 3, .nm 4]) (.op .tup [.call "_law_made" none [.var 1], .call "_law_made" none [.var 2]]), .set 5 (.op (.lst false) [.call "first_unkind" none [.var 3, .var 4], .call "first_unkind" none [.var 4, .var 3], .call "first_unkind" (some [1, 0]) [.var 4, .var 3]]), .set 6 (.op (.lst false) [.call "_law_due" none [.var 1, .var 2], .call "_law_due" none [.var 2, .var 1], .call "_law_due" none [.var 1, .var 2]]), .ret (.and (.eqo false (.op .repr [.var 5]) (.op .repr [.var 6])) (.and (.op .isN [.call "first_unkind" none [.var 3, .var 3]]) (.eqo false (.op .repr [.call "first_unkind" none [.var 4, .var 3]]) (.op .repr [.op .ix [.var 6, .con (.int (1))]]))))] }
def F_law25 : FnC := { np := 1, star := false, ns := 2, body := [.ife (.not (.call "_law_hand_right" none [])) [.ret (.con (.bl false))] [], .forr (.nm 1) (.rng1 (.op .max2 [.con (.int (2)), .op .min2 [.op .len [.var 0], .con (.int (8))]])) [.ife (.not (.call "_law_right" none [.call "_law_pool" none [.var 0, .var 1]])) [.ret (.con (.bl false))] []], .ret (.con (.bl true))] }
theorem q_callp {G : Prg} {cl : Cl} {f : Str} {p : List Nat} {es : List Ex} {env : En} {st : Sto} : ev G cl (.call f (some p) es) env st = (evs G cl es env st).bind fun ws st1 => match permW ws p with
    | some us => cl f us st1
    | none => .stuck := rfl
theorem innr_lt {p : Nat → Nat → Bool} {l k : Nat} (h : innr p l = some k) : k < l := List.mem_range.mp (List.mem_of_find?_eq_some h)
theorem srch_lt {p : Nat → Nat → Bool} {n : Nat} {x : Nat × Nat} (h : srch p n = some x) : x.1 ≤ n ∧ x.2 ≤ n := by
  unfold srch at h
  split at h
  · rename_i i hi
    cases h
    have h1 : i < n := List.mem_range.mp (List.mem_of_find?_eq_some hi)
    have h2 := List.find?_some hi
    obtain ⟨k, hk⟩ := Option.isSome_iff_exists.mp h2
    rw [hk]
    have := innr_lt hk
    show k ≤ n ∧ i + 1 ≤ n
    omega
  · cases h
theorem res_nice {p : Nat → Nat → Bool} : (resW (srch p 24)).nice = true ∧ W.dat 11 (resW (srch p 24)) = true ∧ W.dat dep (resW (srch p 24)) = true ∧ (resW (srch p 24)).toP.weight ≤ 100 := by
  cases h : srch p 24 with
  | none => exact ⟨rfl, rfl, rfl, by decide⟩
  | some x =>
    obtain ⟨k, l⟩ := x
    obtain ⟨h1, h2⟩ := srch_lt h
    have h1 : k ≤ 24 := h1
    have h2 : l ≤ 24 := h2
    refine ⟨?_, rfl, rfl, ?_⟩
    · show (W.nice (N k) && (W.nice (N l) && true)) = true
      have e : ∀ m : Nat, m ≤ 24 → W.nice (N m) = true := fun m hm => by
        show (decide (0 ≤ (m : Int)) && decide (((m : Int)).toNat < 10 ^ 42)) = true
        simp only [Bool.and_eq_true, decide_eq_true_eq]
        omega
      rw [e k h1, e l h2]
      rfl
    · have e : ∀ m : Nat, m ≤ 24 → PyData.weight (.int (m : Int)) ≤ 20 := fun m hm => by
        show (if ((m : Int) == 0) = true then 0 else ((m : Int)).natAbs.log2 + 1) ≤ 20
        split
        · omega
        · have : m < 2 ^ 5 := by omega
          have := log2_lt_of this
          rw [Int.natAbs_natCast]
          omega
      show PyData.weight (.int (k : Int)) + 1 + (PyData.weight (.int (l : Int)) + 1 + 0) ≤ 100
      have := e k h1
      have := e l h2
      omega
section
variable {G : Prg} (P : Pg G) (T : PgC G) (f_near : G.fn "_law_near" = some F_near25) (k_near : G.keep "_law_near" = false) (f_right : G.fn "_law_right" = some F_right25) (k_right : G.keep "_law_right" = false) {st : Sto} {k : Nat}
include P T f_near k_near f_right k_right
theorem c_right25 {i : Nat} {tk : List W} (hi : i < st.length) (ht : Pk tk 0) : ∃ tk' d, Pk tk' d ∧ callK G (k + 9) "_law_right" [.ref i] (st.set i (.lst tk)) = .ok (.bl true) (st.set i (.lst tk')) := by
  rw [call_fn f_right rfl rfl, k_right]
  obtain ⟨x, tk1, hx, hxu, t1, e1⟩ := c_lrule P T (k := k + 5) (st := st) (i := i) (bs := [1, 2, 3, 10, 997, 10 ^ 12 + 39]) hi ht (by decide) (by decide) (by decide) (fun b hb => by simp at hb; rcases hb with rfl | rfl | rfl | rfl | rfl | rfl <;> decide)
  have e1 : callK G (k + 8) "_law_rule" [.ref i, .vl [.int 1, .int 2, .int 3, .int 10, .int 997, .int 1000000000039]] (st.set i (.lst tk)) = .ok x.w (st.set i (.lst tk1)) := e1
  obtain ⟨y, tk2, hy, t2, e2⟩ := c_near P T f_near k_near (k := k + 4) (st := st) hi t1 (by decide) hx hxu
  have hx8 := hx.up (B := 10 ^ 18) (by decide)
  refine ⟨tk2, _, t2, ?_⟩
  have pw : ∀ S : Sto, prim .pow [.int 10, .int 12] S = .ok (.int 1000000000000) S := fun S => by
    rw [p_powI]; rfl
  have m1 := c_made P T.toPgP (k := k) (st := st.set i (.lst tk2)) hx8
  have m2 := c_made P T.toPgP (k := k) (st := st.set i (.lst tk2)) hy
  have px : ∀ l, 1 ≤ l → 0 < x.rl.at l := fun l hl => by rw [Sp.rl_at hx8]; exact mq_pos hx8.u0 (hx8.pos hl)
  have py : ∀ l, 1 ≤ l → 0 < y.rl.at l := fun l hl => by rw [Sp.rl_at hy]; exact mq_pos hy.u0 (hy.pos hl)
  have u1 := c_unkind P (k := k + 2) (st := st.set i (.lst tk2)) hx8.sz hy.sz px py
  have u2 := c_unkind P (k := k + 2) (st := st.set i (.lst tk2)) hy.sz hx8.sz py px
  have u3 := c_unkind P (k := k + 2) (st := st.set i (.lst tk2)) hx8.sz hx8.sz px px
  rw [unk_all hx8 hy] at u1
  rw [unk_all hy hx8] at u2
  rw [unk_all hx8 hx8, unk_self] at u3
  have d1 := c_due25 P T (k := k + 6) (st := st.set i (.lst tk2)) hx8 hy
  have d2 := c_due25 P T (k := k + 6) (st := st.set i (.lst tk2)) hy hx8
  obtain ⟨n1, n2, _, n3⟩ := res_nice (p := unkS x y)
  obtain ⟨o1, o2, dB, o3⟩ := res_nice (p := unkS y x)
  generalize resW (srch (unkS x y) 24) = A at *
  generalize resW (srch (unkS y x) 24) = B at *
  have hn : W.nice (.vl [A, B, A]) = true := by
    show (W.nice A && (W.nice B && (W.nice A && true))) = true
    rw [n1, o1]; rfl
  have hd : W.dat dep (.vl [A, B, A]) = true := by
    show W.dats 11 [A, B, A] = true
    simp only [dats_cons, dats_nil, n2, o2, Bool.and_self]
  have hw : (W.vl [A, B, A]).toP.weight ≤ 20000 := by
    show A.toP.weight + 1 + (B.toP.weight + 1 + (A.toP.weight + 1 + 0)) ≤ 20000
    omega
  have r1 : ∀ S : Sto, prim .repr [.vl [A, B, A]] S = .ok (.str (rp (.vl [A, B, A]))) S := fun S => p_repr hn hd hw
  have r2 : ∀ S : Sto, prim .repr [B] S = .ok (.str (rp B)) S := fun S => p_repr o1 dB (by omega)
  have q1 : ∀ S : Sto, eqT G (callK G (k + 8)) false (.str (rp (.vl [A, B, A]))) (.str (rp (.vl [A, B, A]))) S = .ok (.bl true) S := fun S => by
    rw [eqT_str (rp_asc hn) (rp_asc hn)]; simp
  have q2 : ∀ S : Sto, eqT G (callK G (k + 8)) false (.str (rp B)) (.str (rp B)) S = .ok (.bl true) S := fun S => by
    rw [eqT_str (rp_asc o1) (rp_asc o1)]; simp
  simp only [F_right25, start_, List.map_cons, List.map_nil, List.length_cons, List.length_nil, Nat.reduceAdd, Nat.reduceSub, List.replicate, List.cons_append, List.nil_append, List.append_nil, Nat.sub_self]
  rw [q_exs1]
  simp only [q_set, q_unp, q_ret, q_exp, q_ife, q_op, q_evs1, q_evs0, q_var, q_con, q_call, q_ite, q_and, q_or, q_not, q_eqo, List.getElem?_cons_zero, List.getElem?_cons_succ, q_bindok, q_ofok, List.set_cons_succ, List.set_cons_zero, q_nextnx, q_nextrt, q_trut, q_truf, q_truSt, q_truSf, p_tup, p_lst, mkLf, mkLt, List.length_cons, List.length_nil, Nat.reduceAdd, Nat.reduceLeDiff, if_true, put_tp, puts1, puts0, put_nm, p_addI, p_subI, p_ltI, p_leI, p_gtI, p_geI, p_lenL, p_lenT, p_ixL, p_ixT, q_lc, q_iseq, q_irng1, q_irng2, seqL, seqT, wipeE, noErr_ok, q_exs0, szL, pw, Int.reduceAdd, e1]
  rw [q_exs1]
  simp only [q_set, q_unp, q_ret, q_exp, q_ife, q_op, q_evs1, q_evs0, q_var, q_con, q_call, q_ite, q_and, q_or, q_not, q_eqo, List.getElem?_cons_zero, List.getElem?_cons_succ, q_bindok, q_ofok, List.set_cons_succ, List.set_cons_zero, q_nextnx, q_nextrt, q_trut, q_truf, q_truSt, q_truSf, p_tup, p_lst, mkLf, mkLt, List.length_cons, List.length_nil, Nat.reduceAdd, Nat.reduceLeDiff, if_true, put_tp, puts1, puts0, put_nm, p_addI, p_subI, p_ltI, p_leI, p_gtI, p_geI, p_lenL, p_lenT, p_ixL, p_ixT, q_lc, q_iseq, q_irng1, q_irng2, seqL, seqT, wipeE, noErr_ok, q_exs0, e2]
  rw [q_exs1]
  simp only [q_set, q_unp, q_ret, q_exp, q_ife, q_op, q_evs1, q_evs0, q_var, q_con, q_call, q_ite, q_and, q_or, q_not, q_eqo, List.getElem?_cons_zero, List.getElem?_cons_succ, q_bindok, q_ofok, List.set_cons_succ, List.set_cons_zero, q_nextnx, q_nextrt, q_trut, q_truf, q_truSt, q_truSf, p_tup, p_lst, mkLf, mkLt, List.length_cons, List.length_nil, Nat.reduceAdd, Nat.reduceLeDiff, if_true, put_tp, puts1, puts0, put_nm, p_addI, p_subI, p_ltI, p_leI, p_gtI, p_geI, p_lenL, p_lenT, p_ixL, p_ixT, q_lc, q_iseq, q_irng1, q_irng2, seqL, seqT, wipeE, noErr_ok, q_exs0, szL, m1, m2]
  rw [q_exs1]
  simp only [q_set, q_unp, q_ret, q_exp, q_ife, q_op, q_evs1, q_evs0, q_var, q_con, q_call, q_ite, q_and, q_or, q_not, q_eqo, List.getElem?_cons_zero, List.getElem?_cons_succ, q_bindok, q_ofok, List.set_cons_succ, List.set_cons_zero, q_nextnx, q_nextrt, q_trut, q_truf, q_truSt, q_truSf, p_tup, p_lst, mkLf, mkLt, List.length_cons, List.length_nil, Nat.reduceAdd, Nat.reduceLeDiff, if_true, put_tp, puts1, puts0, put_nm, p_addI, p_subI, p_ltI, p_leI, p_gtI, p_geI, p_lenL, p_lenT, p_ixL, p_ixT, q_lc, q_iseq, q_irng1, q_irng2, seqL, seqT, wipeE, noErr_ok, q_exs0, szL, u1, u2, q_callp, permW]
  rw [q_exs1]
  simp only [q_set, q_unp, q_ret, q_exp, q_ife, q_op, q_evs1, q_evs0, q_var, q_con, q_call, q_ite, q_and, q_or, q_not, q_eqo, List.getElem?_cons_zero, List.getElem?_cons_succ, q_bindok, q_ofok, List.set_cons_succ, List.set_cons_zero, q_nextnx, q_nextrt, q_trut, q_truf, q_truSt, q_truSf, p_tup, p_lst, mkLf, mkLt, List.length_cons, List.length_nil, Nat.reduceAdd, Nat.reduceLeDiff, if_true, put_tp, puts1, puts0, put_nm, p_addI, p_subI, p_ltI, p_leI, p_gtI, p_geI, p_lenL, p_lenT, p_ixL, p_ixT, q_lc, q_iseq, q_irng1, q_irng2, seqL, seqT, wipeE, noErr_ok, q_exs0, szL, d1, d2]
  rw [q_exs1]
  have nn : ∀ S : Sto, pIsN false (resW none) S = .ok (.bl true) S := fun S => rfl
  simp only [q_set, q_unp, q_ret, q_exp, q_ife, q_op, q_evs1, q_evs0, q_var, q_con, q_call, q_ite, q_and, q_or, q_not, q_eqo, List.getElem?_cons_zero, List.getElem?_cons_succ, q_bindok, q_ofok, List.set_cons_succ, List.set_cons_zero, q_nextnx, q_nextrt, q_trut, q_truf, q_truSt, q_truSf, p_tup, p_lst, mkLf, mkLt, List.length_cons, List.length_nil, Nat.reduceAdd, Nat.reduceLeDiff, if_true, put_tp, puts1, puts0, put_nm, p_addI, p_subI, p_ltI, p_leI, p_gtI, p_geI, p_lenL, p_lenT, p_ixL, p_ixT, q_lc, q_iseq, q_irng1, q_irng2, seqL, seqT, wipeE, noErr_ok, q_exs0, r1, r2, q1, q2, u3, p_isN, nn, u2, at1, q_finrt]
  have := gc_set (b := false) (st := st.set i (.lst tk)) (i := i) (o := .lst tk2) (w := .bl true) (by rw [List.length_set]; exact pk_rlt t2) rfl
  rw [List.set_set] at this
  exact this
theorem c_law25 (f_law : G.fn "law" = some F_law25) (hand : callK G (k + 9) "_law_hand_right" [] [] = .ok (.bl true) []) :
    ∀ (ns : List Int), ∀ (w : W), (w = .vl (ns.map W.int) ∨ w = .fzl (ns.map W.int)) → ∃ st', callK G (k + 10) "law" [w] [] = .ok (.bl true) st' := by
  intro ns w hw
  rw [call_fn f_law rfl rfl]
  have w3 : ∀ S : Sto, prim .len [w] S = .ok (.int ns.length) S := by
    rcases hw with rfl | rfl
    · exact fun S => by simp
    · exact fun S => by simp
  obtain ⟨n, hn, hn2⟩ : ∃ n : Nat, (if (if (8 : Int) < (ns.length : Int) then (8 : Int) else (ns.length : Int)) > 2 then (if (8 : Int) < (ns.length : Int) then (8 : Int) else (ns.length : Int)) else 2) = (n : Int) ∧ n ≤ 100 := by
    refine ⟨max 2 (min ns.length 8), ?_, by omega⟩
    split <;> split <;> omega
  have loop : ∀ (I : Itm), I.at_ = [] → ∀ (js : List Nat) (S : Sto) (o : Option W), (∀ j ∈ js, j < 1000) → ∃ S' o', forE G (callK G (k + 9)) (.nm 1) [.ife (.not (.call "_law_right" none [.call "_law_pool" none [.var 0, .var 1]])) [.ret (.con (.bl false))] []] I (js.map fun j : Nat => .int (0 + (j : Int))) [some w, o] S = .fl (.nx [some w, o']) S' := by
    intro I hI js
    induction js with
    | nil => intro S o _; exact ⟨S, o, forE_nil (by simp [Itm.chk, hI])⟩
    | cons j js ih =>
      intro S o hj
      obtain ⟨tk, ht, et⟩ := c_pool T.toPgP (k := k + 8) (st := S) (w := w) (ns := ns) (j := j) hw (hj j (by simp))
      obtain ⟨tk', d, ht', er⟩ := c_right25 P T f_near k_near f_right k_right (k := k) (st := S ++ [.lst tk]) (i := S.length) (tk := tk) (by simp) ht
      have s1 : ∀ t : List W, (S ++ [Ob.lst tk]).set S.length (.lst t) = S ++ [.lst t] := fun t => by simp
      rw [s1, s1] at er
      have z : (0 : Int) + (j : Int) = j := by omega
      obtain ⟨S', o', e⟩ := ih (S ++ [.lst tk']) (some (.int (0 + (j : Int)))) (fun x hx => hj x (by simp [hx]))
      refine ⟨S', o', ?_⟩
      rw [List.map_cons, forE_cons (env1 := [some w, some (.int (0 + (j : Int)))]) (env2 := [some w, some (.int (0 + (j : Int)))]) (st2 := S ++ [.lst tk']) (by simp [Itm.chk, hI]) rfl]
      · exact e
      · rw [q_exs1]
        simp only [q_set, q_unp, q_ret, q_exp, q_ife, q_op, q_evs1, q_evs0, q_var, q_con, q_call, q_ite, q_and, q_or, q_not, q_eqo, List.getElem?_cons_zero, List.getElem?_cons_succ, q_bindok, q_ofok, List.set_cons_succ, List.set_cons_zero, q_nextnx, q_nextrt, q_trut, q_truf, q_truSt, q_truSf, p_tup, p_lst, mkLf, mkLt, List.length_cons, List.length_nil, Nat.reduceAdd, Nat.reduceLeDiff, if_true, put_tp, puts1, puts0, put_nm, p_addI, p_subI, p_ltI, p_leI, p_gtI, p_geI, p_lenL, p_lenT, p_ixL, p_ixT, q_lc, q_iseq, q_irng1, q_irng2, seqL, seqT, wipeE, noErr_ok, q_exs0, z, et, er]
  obtain ⟨S', o', e⟩ := loop ⟨(List.range n).map fun j : Nat => .int (0 + (j : Int)), []⟩ rfl (List.range n) [] none (fun j hj => by have := List.mem_range.mp hj; omega)
  have ea : exs G (callK G (k + 9)) F_law25.body (startE F_law25.ns [w]) [] = .fl (.rt (.bl true)) S' := by
    simp only [F_law25, start_, List.map_cons, List.map_nil, List.length_cons, List.length_nil, Nat.reduceAdd, Nat.reduceSub, List.replicate, List.cons_append, List.nil_append, List.append_nil, Nat.sub_self]
    rw [q_exs1]
    simp only [q_set, q_unp, q_ret, q_exp, q_ife, q_op, q_evs1, q_evs0, q_var, q_con, q_call, q_ite, q_and, q_or, q_not, q_eqo, List.getElem?_cons_zero, List.getElem?_cons_succ, q_bindok, q_ofok, List.set_cons_succ, List.set_cons_zero, q_nextnx, q_nextrt, q_trut, q_truf, q_truSt, q_truSf, p_tup, p_lst, mkLf, mkLt, List.length_cons, List.length_nil, Nat.reduceAdd, Nat.reduceLeDiff, if_true, put_tp, puts1, puts0, put_nm, p_addI, p_subI, p_ltI, p_leI, p_gtI, p_geI, p_lenL, p_lenT, p_ixL, p_ixT, q_lc, q_iseq, q_irng1, q_irng2, seqL, seqT, wipeE, noErr_ok, q_exs0, hand]
    rw [q_exs1]
    simp only [q_for, q_irng1, q_op, q_evs1, q_evs0, q_con, q_var, List.getElem?_cons_zero, q_bindok, w3, p_min, p_max, hn, rngI1 (show n < 1000 by omega), q_ofok]
    rw [e]
    simp only [q_nextnx]
    rw [q_exs1]
    simp only [q_set, q_unp, q_ret, q_exp, q_ife, q_op, q_evs1, q_evs0, q_var, q_con, q_call, q_ite, q_and, q_or, q_not, q_eqo, List.getElem?_cons_zero, List.getElem?_cons_succ, q_bindok, q_ofok, List.set_cons_succ, List.set_cons_zero, q_nextnx, q_nextrt, q_trut, q_truf, q_truSt, q_truSf, p_tup, p_lst, mkLf, mkLt, List.length_cons, List.length_nil, Nat.reduceAdd, Nat.reduceLeDiff, if_true, put_tp, puts1, puts0, put_nm, p_addI, p_subI, p_ltI, p_leI, p_gtI, p_geI, p_lenL, p_lenT, p_ixL, p_ixT, q_lc, q_iseq, q_irng1, q_irng2, seqL, seqT, wipeE, noErr_ok, q_exs0]
  rw [ea, q_finrt]
  have : ∀ b : Bool, gcR b [] (.ok (.bl true) S') = .ok (.bl true) [] := fun b => by
    have := gc_ok (b := b) (st := []) (g := S') (w := .bl true) rfl
    simpa using this
  exact ⟨[], this _⟩
end
end Zv

set_option maxRecDepth 100000
set_option maxHeartbeats 0
namespace Zl
open PySem PySem.Spec L2 Zv
def top (i : Nat) : Stmt := PySem.Challenge.pw_wholeshares_k25_unkind_by_looking.main.body.getD i (.Pass ⟨0, 0, 0, 0⟩)
def z_is_integer : DefZ := ⟨⟨("is_integer", none), "is_integer", "is_integer", defArgs (top 13), defBody (top 13), defScope (top 13), [], []⟩, ["value"], false, [], false⟩
def z_is_count : DefZ := ⟨⟨("is_count", none), "is_count", "is_count", defArgs (top 14), defBody (top 14), defScope (top 14), [], []⟩, ["value"], false, [], false⟩
def z_is_number : DefZ := ⟨⟨("is_number", none), "is_number", "is_number", defArgs (top 15), defBody (top 15), defScope (top 15), [], []⟩, ["value"], false, [], false⟩
def z_common_divisor : DefZ := ⟨⟨("common_divisor", none), "common_divisor", "common_divisor", defArgs (top 16), defBody (top 16), defScope (top 16), [], []⟩, ["one", "other"], false, [], false⟩
def z_reduced : DefZ := ⟨⟨("reduced", none), "reduced", "reduced", defArgs (top 17), defBody (top 17), defScope (top 17), [], []⟩, ["top", "bottom", "divisor"], false, [], false⟩
def z_exact : DefZ := ⟨⟨("exact", none), "exact", "exact", defArgs (top 18), defBody (top 18), defScope (top 18), [], []⟩, ["number"], false, [], false⟩
def z_less : DefZ := ⟨⟨("less", none), "less", "less", defArgs (top 19), defBody (top 19), defScope (top 19), [], []⟩, ["one", "other"], false, [], false⟩
def z_plus : DefZ := ⟨⟨("plus", none), "plus", "plus", defArgs (top 20), defBody (top 20), defScope (top 20), [], []⟩, ["one", "other"], false, [], false⟩
def z_over : DefZ := ⟨⟨("over", none), "over", "over", defArgs (top 21), defBody (top 21), defScope (top 21), [], []⟩, ["one", "other"], false, [], false⟩
def z_digits_of : DefZ := ⟨⟨("digits_of", none), "digits_of", "digits_of", defArgs (top 22), defBody (top 22), defScope (top 22), [], []⟩, ["number", "pieces", "rest", "word"], false, ["pieces"], false⟩
def z_exact_text : DefZ := ⟨⟨("exact_text", none), "exact_text", "exact_text", defArgs (top 23), defBody (top 23), defScope (top 23), [], []⟩, ["number"], false, [], false⟩
def z_count_in : DefZ := ⟨⟨("count_in", none), "count_in", "count_in", defArgs (top 24), defBody (top 24), defScope (top 24), [], []⟩, ["word", "digit", "count"], false, [], false⟩
def z_exact_in : DefZ := ⟨⟨("exact_in", none), "exact_in", "exact_in", defArgs (top 25), defBody (top 25), defScope (top 25), [], []⟩, ["word", "parts", "part"], false, [], false⟩
def z_is_offset : DefZ := ⟨⟨("is_offset", none), "is_offset", "is_offset", defArgs (top 27), defBody (top 27), defScope (top 27), [], []⟩, ["value"], false, [], false⟩
def z_first_bad_mark : DefZ := ⟨⟨("first_bad_mark", none), "first_bad_mark", "first_bad_mark", defArgs (top 28), defBody (top 28), defScope (top 28), [], []⟩, ["offset", "head", "last", "index", "number", "size"], false, [], false⟩
def z_Rule___init__ : DefZ := ⟨⟨("Rule", some "__init__"), "__init__", "Rule.__init__", defArgs (inClass (top 29) 0), defBody (inClass (top 29) 0), defScope (inClass (top 29) 0), [], []⟩, ["self", "offset", "head", "index", "number"], false, [], false⟩
def z_Rule_read : DefZ := ⟨⟨("Rule", some "read"), "read", "Rule.read", defArgs (inClass (top 29) 1), defBody (inClass (top 29) 1), defScope (inClass (top 29) 1), [], []⟩, ["text", "rule"], false, [], true⟩
def z_Rule_at : DefZ := ⟨⟨("Rule", some "at"), "at", "Rule.at", defArgs (inClass (top 29) 2), defBody (inClass (top 29) 2), defScope (inClass (top 29) 2), [], []⟩, ["self", "k"], false, [], false⟩
def z_Rule_mark : DefZ := ⟨⟨("Rule", some "mark"), "mark", "Rule.mark", defArgs (inClass (top 29) 3), defBody (inClass (top 29) 3), defScope (inClass (top 29) 3), [], []⟩, ["self", "number"], false, [], false⟩
def z_Rule_marks_below : DefZ := ⟨⟨("Rule", some "marks_below"), "marks_below", "Rule.marks_below", defArgs (inClass (top 29) 4), defBody (inClass (top 29) 4), defScope (inClass (top 29) 4), [], []⟩, ["self", "number"], false, [], false⟩
def z_Rule___eq__ : DefZ := ⟨⟨("Rule", some "__eq__"), "__eq__", "Rule.__eq__", defArgs (inClass (top 29) 5), defBody (inClass (top 29) 5), defScope (inClass (top 29) 5), [], []⟩, ["self", "other", "size", "k"], false, [], false⟩
def z_Rule___str__ : DefZ := ⟨⟨("Rule", some "__str__"), "__str__", "Rule.__str__", defArgs (inClass (top 29) 6), defBody (inClass (top 29) 6), defScope (inClass (top 29) 6), [], []⟩, ["self"], false, [], false⟩
def z_rule_in : DefZ := ⟨⟨("rule_in", none), "rule_in", "rule_in", defArgs (top 30), defBody (top 30), defScope (top 30), [], []⟩, ["text", "words", "offset", "head", "word"], false, [], false⟩
def z_check_rule : DefZ := ⟨⟨("check_rule", none), "check_rule", "check_rule", defArgs (top 31), defBody (top 31), defScope (top 31), [], []⟩, ["value"], false, [], false⟩
def z_check_rules : DefZ := ⟨⟨("check_rules", none), "check_rules", "check_rules", defArgs (top 33), defBody (top 33), defScope (top 33), [], []⟩, ["rule", "other_rule"], false, [], false⟩
def z_turning_point : DefZ := ⟨⟨("turning_point", none), "turning_point", "turning_point", defArgs (top 34), defBody (top 34), defScope (top 34), [], []⟩, ["rule", "k", "l", "top", "bottom"], false, [], false⟩
def z_first_unkind : DefZ := ⟨⟨("first_unkind", none), "first_unkind", "first_unkind", defArgs (top 35), defBody (top 35), defScope (top 35), [], []⟩, ["rule", "other_rule", "l", "k"], false, [], false⟩
def z__law_pool : DefZ := ⟨⟨("_law_pool", none), "_law_pool", "_law_pool", defArgs (top 37), defBody (top 37), defScope (top 37), [], []⟩, ["_law_script", "_law_at_here", "_law_mixed", "_law_cell", "_law_own"], true, [], false⟩
def z__law_draw : DefZ := ⟨⟨("_law_draw", none), "_law_draw", "_law_draw", defArgs (top 38), defBody (top 38), defScope (top 38), [], []⟩, ["_law_pool_here", "_law_many", "_law_seed", "_law_digit"], false, [], false⟩
def z__law_pick : DefZ := ⟨⟨("_law_pick", none), "_law_pick", "_law_pick", defArgs (top 39), defBody (top 39), defScope (top 39), [], []⟩, ["_law_pool_here", "_law_things"], false, [], false⟩
def z__law_rule : DefZ := ⟨⟨("_law_rule", none), "_law_rule", "_law_rule", defArgs (top 40), defBody (top 40), defScope (top 40), [], []⟩, ["_law_pool_here", "_law_bottoms", "_law_size", "_law_bottom", "_law_shift", "_law_wide", "_law_way", "_law_steps", "_law_each", "_law_whole", "_law_top", "_law_at_here", "_law_marks", "_law_step"], false, ["_law_marks"], false⟩
def z__law_at : DefZ := ⟨⟨("_law_at", none), "_law_at", "_law_at", defArgs (top 41), defBody (top 41), defScope (top 41), [], []⟩, ["_law_own", "_law_at_here"], false, [], false⟩
def z__law_common : DefZ := ⟨⟨("_law_common", none), "_law_common", "_law_common", defArgs (top 42), defBody (top 42), defScope (top 42), [], []⟩, ["_law_one", "_law_two"], false, [], false⟩
def z__law_word : DefZ := ⟨⟨("_law_word", none), "_law_word", "_law_word", defArgs (top 43), defBody (top 43), defScope (top 43), [], []⟩, ["_law_top", "_law_bottom", "_law_by"], false, [], false⟩
def z__law_made : DefZ := ⟨⟨("_law_made", none), "_law_made", "_law_made", defArgs (top 44), defBody (top 44), defScope (top 44), [], []⟩, ["_law_own", "_law_words", "_law_mark"], false, [], false⟩
def z__law_near : DefZ := ⟨⟨("_law_near", none), "_law_near", "_law_near", defArgs (top 45), defBody (top 45), defScope (top 45), [], []⟩, ["_law_pool_here", "_law_own", "_law_way", "_law_size", "_law_unit", "_law_shift", "_law_marks", "_law_mark", "_law_step", "_law_more", "_law_at_here"], false, ["_law_marks"], false⟩
def z__law_due : DefZ := ⟨⟨("_law_due", none), "_law_due", "_law_due", defArgs (top 46), defBody (top 46), defScope (top 46), [], []⟩, ["_law_one", "_law_two", "_law_high", "_law_low"], false, [], false⟩
def z__law_hand_right : DefZ := ⟨⟨("_law_hand_right", none), "_law_hand_right", "_law_hand_right", defArgs (top 47), defBody (top 47), defScope (top 47), [], []⟩, ["_law_words", "_law_told", "_law_one", "_law_two"], false, [], false⟩
def z__law_right : DefZ := ⟨⟨("_law_right", none), "_law_right", "_law_right", defArgs (top 48), defBody (top 48), defScope (top 48), [], []⟩, ["_law_pool_here", "_law_own", "_law_mate", "_law_one", "_law_two", "_law_told", "_law_due_here"], false, [], false⟩
def z_law : DefZ := ⟨⟨("law", none), "law", "law", defArgs (top 49), defBody (top 49), defScope (top 49), [], []⟩, ["_law_script", "_law_at_here"], false, [], false⟩
def prog : Pz where
  defs := ([z_is_integer, z_is_count, z_is_number, z_common_divisor, z_reduced, z_exact, z_less, z_plus, z_over, z_digits_of, z_exact_text, z_count_in, z_exact_in, z_is_offset, z_first_bad_mark, z_Rule___init__, z_Rule_read, z_Rule_at, z_Rule_mark, z_Rule_marks_below, z_Rule___eq__, z_Rule___str__, z_rule_in, z_check_rule, z_check_rules, z_turning_point, z_first_unkind, z__law_pool, z__law_draw, z__law_pick] : List DefZ) ++ ([z__law_rule, z__law_at, z__law_common, z__law_word, z__law_made, z__law_near, z__law_due, z__law_hand_right, z__law_right, z_law] : List DefZ)
  intC := ([("MOST_HEAD", 8), ("WIDE", 1000000000000000000), ("WIDE_DIGITS", 18)] : List (Str × Int))
  strC := ([("DIGITS", "0123456789")] : List (Str × Str))
  bis := (["len", "abs", "int", "sum", "tuple", "any", "max", "min", "divmod", "range", "enumerate", "str", "repr", "isinstance", "bool"] : List Str)
  fns := (["is_integer", "is_count", "is_number", "common_divisor", "reduced", "exact", "less", "plus", "over", "digits_of", "exact_text", "count_in", "exact_in", "is_offset", "first_bad_mark", "rule_in", "check_rule", "check_rules", "turning_point", "first_unkind", "_law_pool", "_law_draw", "_law_pick", "_law_rule", "_law_at", "_law_common", "_law_word", "_law_made", "_law_near", "_law_due"] : List Str) ++ (["_law_hand_right", "_law_right", "law"] : List Str)
  meths := ([(("Rule", "at"), "Rule.at"), (("Rule", "mark"), "Rule.mark"), (("Rule", "marks_below"), "Rule.marks_below")] : List ((Str × Str) × Str))
  flds := ([("Rule", "offset"), ("Rule", "head"), ("Rule", "words")] : List (Str × Str))
  inits := ([("Rule", "Rule.__init__")] : List (Str × Str))
  eqs := ([("Rule", "Rule.__eq__")] : List (Str × Str))
  sms := ([("Rule", "Rule.__str__")] : List (Str × Str))
  isis := (["int", "tuple", "Rule", "bool", "str"] : List Str)
  ics := (["Rule"] : List Str)
  keeps := (["_law_pool"] : List Str)
  frzs := (["Rule"] : List Str)
  stats := ([(("Rule", "read"), "Rule.read")] : List ((Str × Str) × Str))
  depth := 60
  fuel := 2 ^ 7900
def F_is_integer : FnC := { np := 1, star := false, ns := 1, body := [.ret (.and (.isi (.var 0) "int") (.not (.isi (.var 0) "bool")))] }
def F_is_count : FnC := { np := 1, star := false, ns := 1, body := [.ret (.and (.call "is_integer" none [.var 0]) (.op .ge [.var 0, .con (.int (0))]))] }
def F_is_number : FnC := { np := 1, star := false, ns := 1, body := [.ife (.not (.isi (.var 0) "tuple")) [.ret (.call "is_integer" none [.var 0])] [], .ret (.and (.eqo false (.op .len [.var 0]) (.con (.int (2)))) (.and (.call "is_integer" none [.op .ix [.var 0, .con (.int (0))]]) (.and (.call "is_integer" none [.op .ix [.var 0, .con (.int (1))]]) (.op .ge [.op .ix [.var 0, .con (.int (1))], .con (.int (1))]))))] }
def F_common_divisor : FnC := { np := 2, star := false, ns := 2, body := [.whl (.op .gt [.var 1, .con (.int (0))]) [.unp (.tp [.nm 0, .nm 1]) (.op .tup [.var 1, .op .mod [.op .int [.var 0], .op .int [.var 1]]])], .ret (.var 0)] }
def F_reduced : FnC := { np := 2, star := false, ns := 3, body := [.set 2 (.call "common_divisor" none [.op .abs [.var 0], .var 1]), .ret (.op .tup [.op .fdiv [.var 0, .var 2], .op .fdiv [.var 1, .var 2]])] }
def F_exact : FnC := { np := 1, star := false, ns := 1, body := [.ret (.ite (.isi (.var 0) "tuple") (.call "reduced" none [.op .ix [.var 0, .con (.int (0))], .op .ix [.var 0, .con (.int (1))]]) (.op .tup [.var 0, .con (.int (1))]))] }
def F_less : FnC := { np := 2, star := false, ns := 2, body := [.ret (.op .lt [.op .mul [.op .ix [.var 0, .con (.int (0))], .op .ix [.var 1, .con (.int (1))]], .op .mul [.op .ix [.var 1, .con (.int (0))], .op .ix [.var 0, .con (.int (1))]]])] }
def F_plus : FnC := { np := 2, star := false, ns := 2, body := [.ret (.call "reduced" none [.op .add [.op .mul [.op .ix [.var 0, .con (.int (0))], .op .ix [.var 1, .con (.int (1))]], .op .mul [.op .ix [.var 1, .con (.int (0))], .op .ix [.var 0, .con (.int (1))]]], .op .mul [.op .ix [.var 0, .con (.int (1))], .op .ix [.var 1, .con (.int (1))]]])] }
def F_over : FnC := { np := 2, star := false, ns := 2, body := [.ret (.call "reduced" none [.op .mul [.op .ix [.var 0, .con (.int (0))], .op .ix [.var 1, .con (.int (1))]], .op .mul [.op .ix [.var 0, .con (.int (1))], .op .ix [.var 1, .con (.int (0))]]])] }
def F_digits_of : FnC := { np := 1, star := false, ns := 4, body := [.unp (.tp [.nm 1, .nm 2]) (.op .tup [.op (.lst true) [], .op .abs [.var 0]]), .whl (.op .ge [.var 2, .glo "WIDE"]) [.set 3 (.op .fmt [.op .mod [.op .int [.var 2], .glo "WIDE"]]), .exp (.bm .append (.var 1) [.op .add [.op .mul [.con (.str "0"), .op .sub [.glo "WIDE_DIGITS", .op .len [.var 3]]], .var 3]]), .set 2 (.op .fdiv [.var 2, .glo "WIDE"])], .exp (.bm .append (.var 1) [.op .fmt [.var 2]]), .ret (.op .add [.ite (.op .lt [.var 0, .con (.int (0))]) (.con (.str "-")) (.con (.str "")), .bm .join (.con (.str "")) [.op .rev [.var 1]]])] }
def F_exact_text : FnC := { np := 1, star := false, ns := 1, body := [.ret (.ite (.eqo false (.op .ix [.var 0, .con (.int (1))]) (.con (.int (1)))) (.call "digits_of" none [.op .ix [.var 0, .con (.int (0))]]) (.fstr [.op .fmt [.call "digits_of" none [.op .ix [.var 0, .con (.int (0))]]], .con (.str "/"), .op .fmt [.call "digits_of" none [.op .ix [.var 0, .con (.int (1))]]]]))] }
def F_count_in : FnC := { np := 1, star := false, ns := 3, body := [.ife (.or (.eqo false (.var 0) (.con (.str ""))) (.op .any [.lc false (.nm 1) [1] (.seq (.var 0)) [] (.op .notin [.var 1, .glo "DIGITS"])])) [.ret (.con (.non))] [], .ife (.and (.eqo false (.op .ix [.var 0, .con (.int (0))]) (.con (.str "0"))) (.eqo true (.var 0) (.con (.str "0")))) [.ret (.con (.non))] [], .set 2 (.con (.int (0))), .forr (.nm 1) (.seq (.var 0)) [.set 2 (.op .add [.op .mul [.con (.int (10)), .var 2], .bm .sindex (.glo "DIGITS") [.var 1]])], .ret (.var 2)] }
def F_exact_in : FnC := { np := 1, star := false, ns := 3, body := [.set 1 (.lc false (.nm 2) [2] (.seq (.bm .split (.var 0) [.con (.str "/")])) [] (.call "count_in" none [.var 2])), .ife (.or (.op .in_ [.con (.non), .var 1]) (.op .gt [.op .len [.var 1], .con (.int (2))])) [.ret (.con (.non))] [], .ife (.eqo false (.op .len [.var 1]) (.con (.int (1)))) [.ret (.op .tup [.op .ix [.var 1, .con (.int (0))], .con (.int (1))])] [], .ife (.or (.op .lt [.op .ix [.var 1, .con (.int (1))], .con (.int (2))]) (.eqo true (.call "reduced" none [.op .ix [.var 1, .con (.int (0))], .op .ix [.var 1, .con (.int (1))]]) (.op .tup [.op .ix [.var 1, .con (.int (0))], .op .ix [.var 1, .con (.int (1))]]))) [.ret (.con (.non))] [], .ret (.op .tup [.op .ix [.var 1, .con (.int (0))], .op .ix [.var 1, .con (.int (1))]])] }
def F_is_offset : FnC := { np := 1, star := false, ns := 1, body := [.ret (.and (.call "is_number" none [.var 0]) (.chain .le .le (.con (.int (0))) (.op .ix [.call "exact" none [.var 0], .con (.int (0))]) (.op .ix [.call "exact" none [.var 0], .con (.int (1))])))] }
def F_first_bad_mark : FnC := { np := 2, star := false, ns := 6, body := [.set 2 (.op .tup [.op .neg [.con (.int (1))], .con (.int (1))]), .forr (.tp [.nm 3, .nm 4]) (.enum (.var 1)) [.ife (.or (.not (.call "is_number" none [.var 4])) (.or (.op .lt [.op .ix [.call "exact" none [.var 4], .con (.int (0))], .con (.int (0))]) (.not (.call "less" none [.var 2, .call "exact" none [.var 4]])))) [.ret (.var 3)] [], .set 2 (.call "exact" none [.var 4])], .set 5 (.op .len [.var 1]), .ret (.ite (.and (.op .gt [.var 5, .con (.int (0))]) (.not (.call "less" none [.var 2, .call "plus" none [.op .tup [.var 5, .con (.int (1))], .var 0]]))) (.op .sub [.var 5, .con (.int (1))]) (.con (.non)))] }
def F_Rule___init__ : FnC := { np := 2, star := true, ns := 5, body := [.ife (.not (.call "is_offset" none [.var 1])) [.never] [], .ife (.op .gt [.op .len [.var 2], .glo "MOST_HEAD"]) [.never] [], .set 3 (.call "first_bad_mark" none [.call "exact" none [.var 1], .var 2]), .ife (.op .isnotN [.var 3]) [.never] [], .fld (.var 0) "offset" (.call "exact" none [.var 1]), .fld (.var 0) "head" (.op .tuple [.lc false (.nm 4) [4] (.seq (.var 2)) [] (.call "exact" none [.var 4])]), .fld (.var 0) "words" (.bm .join (.con (.str " ")) [.lsts false [.s (.lc false (.nm 4) [4] (.seq (.fld (.var 0) "head")) [] (.call "exact_text" none [.var 4])), .p (.con (.str "|")), .p (.call "exact_text" none [.fld (.var 0) "offset"])]])] }
def F_Rule_read : FnC := { np := 1, star := false, ns := 2, body := [.set 1 (.ite (.isi (.var 0) "str") (.call "rule_in" none [.var 0]) (.con (.non))), .ife (.op .isN [.var 1]) [.never] [], .ret (.var 1)] }
def F_Rule_at : FnC := { np := 2, star := false, ns := 2, body := [.ret (.ite (.op .lt [.var 1, .op .len [.fld (.var 0) "head"]]) (.op .ix [.fld (.var 0) "head", .var 1]) (.call "plus" none [.op .tup [.var 1, .con (.int (1))], .fld (.var 0) "offset"]))] }
def F_Rule_mark : FnC := { np := 2, star := false, ns := 2, body := [.ife (.not (.call "is_count" none [.var 1])) [.never] [], .ret (.meth (.var 0) "at" none [.var 1])] }
def F_Rule_marks_below : FnC := { np := 2, star := false, ns := 2, body := [.exp (.bad)] }
def F_Rule___eq__ : FnC := { np := 2, star := false, ns := 4, body := [.ife (.or (.not (.isi (.var 1) "Rule")) (.eqo true (.fld (.var 0) "offset") (.fld (.var 1) "offset"))) [.ret (.con (.bl false))] [], .set 2 (.op .max2 [.op .len [.fld (.var 0) "head"], .op .len [.fld (.var 1) "head"]]), .ret (.eqo false (.lc false (.nm 3) [3] (.rng1 (.var 2)) [] (.meth (.var 0) "at" none [.var 3])) (.lc false (.nm 3) [3] (.rng1 (.var 2)) [] (.meth (.var 1) "at" none [.var 3])))] }
def F_Rule___str__ : FnC := { np := 1, star := false, ns := 1, body := [.ret (.op .fmt [.fld (.var 0) "words"])] }
def F_rule_in : FnC := { np := 1, star := false, ns := 5, body := [.set 1 (.bm .split (.var 0) [.con (.str " ")]), .ife (.or (.op .lt [.op .len [.var 1], .con (.int (2))]) (.or (.op .gt [.op .len [.var 1], .op .add [.glo "MOST_HEAD", .con (.int (2))]]) (.eqo true (.op .ix [.var 1, .op .neg [.con (.int (2))]]) (.con (.str "|"))))) [.ret (.con (.non))] [], .unp (.tp [.nm 2, .nm 3]) (.op .tup [.call "exact_in" none [.op .ix [.var 1, .op .neg [.con (.int (1))]]], .lc false (.nm 4) [4] (.seq (.op (.slc false true) [.var 1, .op .neg [.con (.int (2))]])) [] (.call "exact_in" none [.var 4])]), .ife (.or (.op .isN [.var 2]) (.or (.not (.call "is_offset" none [.var 2])) (.or (.op .in_ [.con (.non), .var 3]) (.op .isnotN [.call "first_bad_mark" none [.var 2, .var 3]])))) [.ret (.con (.non))] [], .ret (.mk "Rule" [.p (.var 2), .s (.var 3)])] }
def F_check_rule : FnC := { np := 1, star := false, ns := 1, body := [.ife (.not (.isi (.var 0) "Rule")) [.never] []] }
def F_check_rules : FnC := { np := 2, star := false, ns := 2, body := [.exp (.call "check_rule" none [.var 0]), .exp (.call "check_rule" none [.var 1])] }
def F_turning_point : FnC := { np := 3, star := false, ns := 5, body := [.unp (.tp [.nm 3, .nm 4]) (.op .tup [.meth (.var 0) "at" none [.var 1], .meth (.var 0) "at" none [.var 2]]), .ife (.op .gt [.op .ix [.var 4, .con (.int (0))], .con (.int (0))]) [.ret (.call "over" none [.var 3, .var 4])] [], .ret (.ite (.op .gt [.op .ix [.var 3, .con (.int (0))], .con (.int (0))]) (.op .tup [.con (.int (1)), .con (.int (0))]) (.op .tup [.con (.int (0)), .con (.int (0))]))] }
def F_first_unkind : FnC := { np := 2, star := false, ns := 4, body := [.exp (.call "check_rules" none [.var 0, .var 1]), .forr (.nm 2) (.rng2 (.con (.int (1))) (.op .add [.op .max2 [.op .len [.fld (.var 0) "head"], .op .len [.fld (.var 1) "head"]], .con (.int (2))])) [.forr (.nm 3) (.rng1 (.var 2)) [.ife (.call "less" none [.call "turning_point" none [.var 1, .var 3, .var 2], .call "turning_point" none [.var 0, .var 3, .var 2]]) [.ret (.op .tup [.var 3, .var 2])] []]], .ret (.con (.non))] }
def F__law_pool : FnC := { np := 2, star := false, ns := 5, body := [.set 2 (.op .addm [.con (.int (90001)), .op .mul [.con (.int (7243)), .var 1]]), .forr (.nm 3) (.seq (.op (.slc false true) [.var 0, .con (.int (20))])) [.set 2 (.op .mod [.op .int [.op .addm [.op .mul [.var 2, .con (.int (45989))], .op .mod [.op .int [.var 3], .con (.int (2147483629))]]], .con (.int (2147483629))])], .set 4 (.ite (.op .lt [.var 1, .op .len [.var 0]]) (.op .int [.op .ix [.var 0, .var 1]]) (.op .addm [.op .mul [.con (.int (11)), .var 1], .con (.int (4))])), .ret (.op (.lst true) [.op .mod [.op .int [.op .addm [.var 2, .var 4]], .con (.int (2147483629))], .ite (.or (.op .lt [.var 4, .con (.int (0))]) (.op .ge [.var 4, .op .pow [.con (.int (10)), .con (.int (18))]])) (.op .abs [.var 4]) (.con (.int (0))), .con (.int (0))])] }
def F__law_draw : FnC := { np := 2, star := false, ns := 4, body := [.sub (.var 0) (.con (.int (2))) (.op .add [.op .ix [.var 0, .con (.int (2))], .con (.int (1))]), .set 2 (.op .int [.op .ix [.var 0, .con (.int (0))]]), .sub (.var 0) (.con (.int (0))) (.op .mod [.op .int [.op .add [.op .add [.op .mul [.var 2, .op .add [.op .mod [.op .int [.var 2], .con (.int (20011))], .con (.int (40009))]], .op .mul [.con (.int (61357)), .op .ix [.var 0, .con (.int (2))]]], .con (.int (29))]], .con (.int (2147483629))]), .ife (.op .gt [.op .ix [.var 0, .con (.int (1))], .con (.int (0))]) [.unpS (.var 0) (.con (.int (1))) 3 (.op .divmod [.op .int [.op .ix [.var 0, .con (.int (1))]], .var 1]), .ret (.var 3)] [], .ret (.op .mod [.op .int [.op .fdiv [.op .ix [.var 0, .con (.int (0))], .con (.int (128))]], .var 1])] }
def F__law_pick : FnC := { np := 2, star := false, ns := 2, body := [.ret (.op .ix [.var 1, .call "_law_draw" none [.var 0, .op .len [.var 1]]])] }
def F__law_rule : FnC := { np := 2, star := false, ns := 14, body := [.set 2 (.call "_law_pick" none [.var 0, .op (.lst false) [.con (.int (0)), .con (.int (0)), .con (.int (1)), .con (.int (1)), .con (.int (2)), .con (.int (3)), .con (.int (5)), .con (.int (8))]]), .set 3 (.call "_law_pick" none [.var 0, .var 1]), .set 4 (.call "_law_pick" none [.var 0, .op (.lst false) [.con (.int (0)), .var 3, .op .fdiv [.var 3, .con (.int (2))], .call "_law_draw" none [.var 0, .op .add [.op .min2 [.var 3, .op .pow [.con (.int (10)), .con (.int (6))]], .con (.int (1))]]]]), .unp (.tp [.nm 5, .nm 6]) (.op .tup [.call "_law_pick" none [.var 0, .op (.lst false) [.con (.int (1)), .con (.int (2)), .con (.int (5)), .con (.int (1000))]], .call "_law_draw" none [.var 0, .con (.int (4))]]), .ife (.eqo false (.var 2) (.con (.int (0)))) [.ret (.op .tup [.var 3, .op (.lst false) [], .var 4])] [], .ife (.op .gt [.var 6, .con (.int (0))]) [.set 7 (.op .add [.op (.lst false) [.call "_law_draw" none [.var 0, .op .add [.var 5, .con (.int (1))]]], .lc false (.nm 8) [8] (.rng1 (.var 2)) [] (.op .add [.con (.int (1)), .call "_law_draw" none [.var 0, .var 5]])]), .unp (.tp [.nm 9, .nm 10]) (.op .tup [.op .sum [.var 7], .op .add [.op .mul [.var 2, .var 3], .var 4]]), .ret (.op .tup [.op .mul [.var 3, .var 9], .lc false (.nm 11) [11] (.rng1 (.var 2)) [] (.op .mul [.var 10, .op .sum [.op (.slc false true) [.var 7, .op .add [.var 11, .con (.int (1))]]]]), .op .mul [.var 4, .var 9]])] [], .set 12 (.lc true (.nm 11) [11] (.rng1 (.var 2)) [] (.op .mul [.con (.int (2)), .op .addm [.op .mul [.var 3, .var 11], .var 4]])), .unp (.tp [.nm 11, .nm 13]) (.op .tup [.call "_law_draw" none [.var 0, .var 2], .call "_law_pick" none [.var 0, .op (.lst false) [.con (.int (1)), .var 3, .op .sub [.op .mul [.con (.int (2)), .var 3], .con (.int (1))]]]]), .sub (.var 12) (.var 11) (.op .max2 [.con (.int (0)), .op .add [.op .ix [.var 12, .var 11], .op .mul [.var 13, .call "_law_pick" none [.var 0, .op (.lst false) [.con (.int (1)), .op .neg [.con (.int (1))]]]]]]), .ret (.op .tup [.op .mul [.con (.int (2)), .var 3], .var 12, .op .mul [.con (.int (2)), .var 4]])] }
def F__law_at : FnC := { np := 2, star := false, ns := 2, body := [.ret (.ite (.op .lt [.var 1, .op .len [.op .ix [.var 0, .con (.int (1))]]]) (.op .ix [.op .ix [.var 0, .con (.int (1))], .var 1]) (.op .add [.op .mul [.var 1, .op .ix [.var 0, .con (.int (0))]], .op .ix [.var 0, .con (.int (2))]]))] }
def F__law_common : FnC := { np := 2, star := false, ns := 2, body := [.whl (.op .gt [.var 1, .con (.int (0))]) [.unp (.tp [.nm 0, .nm 1]) (.op .tup [.var 1, .op .mod [.op .int [.var 0], .var 1]])], .ret (.var 0)] }
def F__law_word : FnC := { np := 2, star := false, ns := 3, body := [.set 2 (.call "_law_common" none [.var 0, .var 1]), .ret (.ite (.eqo false (.var 2) (.var 1)) (.stro (.op .fdiv [.var 0, .var 2])) (.op .add [.op .add [.stro (.op .fdiv [.var 0, .var 2]), .con (.str "/")], .stro (.op .fdiv [.var 1, .var 2])]))] }
def F__law_made : FnC := { np := 1, star := false, ns := 3, body := [.set 1 (.lc false (.nm 2) [2] (.seq (.op .ix [.var 0, .con (.int (1))])) [] (.call "_law_word" none [.var 2, .op .ix [.var 0, .con (.int (0))]])), .ret (.call "Rule.read" none [.bm .join (.con (.str " ")) [.op .add [.var 1, .op (.lst false) [.con (.str "|"), .call "_law_word" none [.op .ix [.var 0, .con (.int (2))], .op .ix [.var 0, .con (.int (0))]]]]]])] }
def F__law_near : FnC := { np := 2, star := false, ns := 11, body := [.unp (.tp [.nm 2, .nm 3]) (.op .tup [.call "_law_draw" none [.var 0, .con (.int (6))], .op .len [.op .ix [.var 1, .con (.int (1))]]]), .unp (.tp [.nm 4, .nm 5]) (.op .tup [.op .mul [.con (.int (2)), .op .ix [.var 1, .con (.int (0))]], .op .mul [.con (.int (2)), .op .ix [.var 1, .con (.int (2))]]]), .set 6 (.lc true (.nm 7) [7] (.seq (.op .ix [.var 1, .con (.int (1))])) [] (.op .mul [.con (.int (2)), .var 7])), .ife (.eqo false (.var 2) (.con (.int (0)))) [.ret (.call "_law_rule" none [.var 0, .op (.lst false) [.con (.int (1)), .con (.int (2)), .con (.int (3)), .con (.int (10))]])] [], .ife (.and (.eqo false (.var 2) (.con (.int (1)))) (.op .lt [.var 5, .var 4])) [.set 8 (.op .add [.con (.int (1)), .call "_law_draw" none [.var 0, .op .min2 [.op .sub [.var 4, .var 5], .op .pow [.con (.int (10)), .con (.int (6))]]]]), .ret (.op .tup [.var 4, .lc false (.nm 7) [7] (.seq (.var 6)) [] (.op .add [.var 7, .var 8]), .op .add [.var 5, .var 8]])] [], .ife (.and (.eqo false (.var 2) (.con (.int (2)))) (.op .lt [.var 5, .var 4])) [.ret (.op .tup [.var 4, .var 6, .op .add [.var 5, .con (.int (1))]])] [], .set 9 (.call "_law_draw" none [.var 0, .con (.int (9))]), .set 6 (.op .addm [.var 6, .lc true (.nm 10) [10] (.rng2 (.var 3) (.op .max2 [.var 3, .var 9])) [] (.op .addm [.op .mul [.var 4, .var 10], .var 5])]), .ife (.or (.eqo false (.var 2) (.con (.int (3)))) (.eqo false (.var 6) (.op (.lst false) []))) [.ret (.op .tup [.var 4, .var 6, .var 5])] [], .set 10 (.call "_law_draw" none [.var 0, .op .len [.var 6]]), .sub (.var 6) (.var 10) (.ite (.or (.eqo false (.var 2) (.con (.int (4)))) (.eqo false (.op .ix [.var 6, .var 10]) (.con (.int (0))))) (.op .add [.op .ix [.var 6, .var 10], .con (.int (1))]) (.op .sub [.op .ix [.var 6, .var 10], .con (.int (1))])), .ret (.op .tup [.var 4, .var 6, .var 5])] }
def F__law_due : FnC := { np := 2, star := false, ns := 4, body := [.forr (.nm 2) (.rng2 (.con (.int (1))) (.con (.int (25)))) [.forr (.nm 3) (.rng1 (.var 2)) [.ife (.op .gt [.op .mul [.call "_law_at" none [.var 0, .var 3], .call "_law_at" none [.var 1, .var 2]], .op .mul [.call "_law_at" none [.var 1, .var 3], .call "_law_at" none [.var 0, .var 2]]]) [.ret (.op .tup [.var 3, .var 2])] []]], .ret (.con (.non))] }
def F__law_hand_right : FnC := { np := 0, star := false, ns := 4, body := [.set 0 (.op (.lst false) [.op .tup [.con (.str "| 0"), .con (.str "| 1")], .op .tup [.con (.str "| 1"), .con (.str "| 0")], .op .tup [.con (.str "| 1"), .con (.str "| 1/2")], .op .tup [.con (.str "7/10 | 1/2"), .con (.str "| 1/2")], .op .tup [.con (.str "| 1/2"), .con (.str "7/10 | 1/2")]]), .set 0 (.op .add [.var 0, .op (.lst false) [.op .tup [.con (.str "1 2 3 7/2 | 1"), .con (.str "| 1")], .op .tup [.con (.str "| 1"), .con (.str "1 2 3 7/2 | 1")], .op .tup [.con (.str "0 1 | 0"), .con (.str "| 0")]]]), .set 1 (.lc false (.tp [.nm 2, .nm 3]) [2, 3] (.seq (.var 0)) [] (.call "first_unkind" none [.call "Rule.read" none [.var 2], .call "Rule.read" none [.var 3]])), .ret (.eqo false (.op .repr [.var 1]) (.op .repr [.op (.lst false) [.con (.non), .op .tup [.con (.int (0)), .con (.int (1))], .op .tup [.con (.int (0)), .con (.int (1))], .op .tup [.con (.int (0)), .con (.int (1))], .con (.non), .op .tup [.con (.int (0)), .con (.int (3))], .op .tup [.con (.int (3)), .con (.int (4))], .con (.non)]]))] }
def F__law_right : FnC := { np := 1, star := false, ns := 7, body := [.set 1 (.call "_law_rule" none [.var 0, .op (.lst false) [.con (.int (1)), .con (.int (2)), .con (.int (3)), .con (.int (10)), .con (.int (997)), .op .add [.op .pow [.con (.int (10)), .con (.int (12))], .con (.int (39))]]]), .set 2 (.call "_law_near" none [.var 0, .var 1]), .unp (.tp [.nm 3, .nm 4]) (.op .tup [.call "_law_made" none [.var 1], .call "_law_made" none [.var 2]]), .set 5 (.op (.lst false) [.call "first_unkind" none [.var 3, .var 4], .call "first_unkind" none [.var 4, .var 3], .call "first_unkind" (some [1, 0]) [.var 4, .var 3]]), .set 6 (.op (.lst false) [.call "_law_due" none [.var 1, .var 2], .call "_law_due" none [.var 2, .var 1], .call "_law_due" none [.var 1, .var 2]]), .ret (.and (.eqo false (.op .repr [.var 5]) (.op .repr [.var 6])) (.and (.op .isN [.call "first_unkind" none [.var 3, .var 3]]) (.eqo false (.op .repr [.call "first_unkind" none [.var 4, .var 3]]) (.op .repr [.op .ix [.var 6, .con (.int (1))]]))))] }
def F_law : FnC := { np := 1, star := false, ns := 2, body := [.ife (.not (.call "_law_hand_right" none [])) [.ret (.con (.bl false))] [], .forr (.nm 1) (.rng1 (.op .max2 [.con (.int (2)), .op .min2 [.op .len [.var 0], .con (.int (8))]])) [.ife (.not (.call "_law_right" none [.call "_law_pool" none [.var 0, .var 1]])) [.ret (.con (.bl false))] []], .ret (.con (.bl true))] }
def bodies : List (Str × FnC) := ([(("is_integer" : Str), F_is_integer), (("is_count" : Str), F_is_count), (("is_number" : Str), F_is_number), (("common_divisor" : Str), F_common_divisor), (("reduced" : Str), F_reduced), (("exact" : Str), F_exact), (("less" : Str), F_less), (("plus" : Str), F_plus)] : List (Str × FnC)) ++ ([(("over" : Str), F_over), (("digits_of" : Str), F_digits_of), (("exact_text" : Str), F_exact_text), (("count_in" : Str), F_count_in), (("exact_in" : Str), F_exact_in), (("is_offset" : Str), F_is_offset), (("first_bad_mark" : Str), F_first_bad_mark), (("Rule.__init__" : Str), F_Rule___init__)] : List (Str × FnC)) ++ ([(("Rule.read" : Str), F_Rule_read), (("Rule.at" : Str), F_Rule_at), (("Rule.mark" : Str), F_Rule_mark), (("Rule.marks_below" : Str), F_Rule_marks_below), (("Rule.__eq__" : Str), F_Rule___eq__), (("Rule.__str__" : Str), F_Rule___str__), (("rule_in" : Str), F_rule_in), (("check_rule" : Str), F_check_rule)] : List (Str × FnC)) ++ ([(("check_rules" : Str), F_check_rules), (("turning_point" : Str), F_turning_point), (("first_unkind" : Str), F_first_unkind), (("_law_pool" : Str), F__law_pool), (("_law_draw" : Str), F__law_draw), (("_law_pick" : Str), F__law_pick), (("_law_rule" : Str), F__law_rule), (("_law_at" : Str), F__law_at)] : List (Str × FnC)) ++ ([(("_law_common" : Str), F__law_common), (("_law_word" : Str), F__law_word), (("_law_made" : Str), F__law_made), (("_law_near" : Str), F__law_near), (("_law_due" : Str), F__law_due), (("_law_hand_right" : Str), F__law_hand_right), (("_law_right" : Str), F__law_right), (("law" : Str), F_law)] : List (Str × FnC))
theorem bodies_ok : (prog.defs.map fun z => (z.d.qual, cDef prog.tab prog.depth z)) = bodies := by kernel_rfl
theorem fn_eq (f : Str) : prog.prg.fn f = bodies.lookup f := by rw [fn_find, bodies_ok]
end Zl

set_option maxRecDepth 100000
set_option maxHeartbeats 8000000
/-! L25g: law k25 joined. -/
namespace Zl
open PySem PySem.Spec L2 Zv
def Gt : Prg := { prog.prg with fn := fun f => bodies.lookup f }
theorem gt_eq : prog.prg = Gt := by
  have : prog.prg.fn = fun f => bodies.lookup f := funext fn_eq
  show prog.prg = { prog.prg with fn := fun f => bodies.lookup f }
  rw [← this]
def usN : List Str := (["is_integer", "is_count", "is_number", "common_divisor", "reduced", "exact", "less", "plus", "over", "digits_of", "exact_text", "count_in", "exact_in", "is_offset", "first_bad_mark", "Rule.__init__", "Rule.read", "Rule.at", "Rule.mark", "Rule.__eq__"] : List Str) ++ (["Rule.__str__", "rule_in", "check_rule", "check_rules", "turning_point", "first_unkind", "_law_pool", "_law_draw", "_law_pick", "_law_rule", "_law_at", "_law_common", "_law_word", "_law_made", "_law_near", "_law_due", "_law_hand_right", "_law_right", "law"] : List Str)
def usC : List Str := (["DIGITS", "MOST_HEAD", "WIDE", "WIDE_DIGITS"] : List Str)
def usM : List Str := (["at"] : List Str)
def usI : List Str := (["Rule", "bool", "int", "str", "tuple"] : List Str)
theorem base : Base Gt := ⟨by kernel_rfl, by kernel_rfl, by kernel_rfl, by kernel_rfl, by kernel_rfl, by kernel_rfl, by kernel_rfl, by kernel_rfl, by kernel_rfl, by kernel_rfl, by kernel_rfl⟩
theorem agr : Agr (usOf usN usC usM usI) Gt (full Gt) := agr_full (G := Gt) (meths := prog.meths) (eqs := prog.eqs) (sms := prog.sms) (fun _ _ => rfl) (fun _ => rfl) (fun _ => rfl) (by kernel_rfl) (by kernel_rfl) (by kernel_rfl) (by kernel_rfl) (by kernel_rfl) (by kernel_rfl) (by kernel_rfl)
  (fun f hf => by
    have e : Gt.init "Rule" = some ("Rule.__init__" : Str) := base.init
    rw [e] at hf
    cases hf
    kernel_rfl) (by kernel_rfl) (by kernel_rfl)
abbrev Gf : Prg := full Gt
theorem pgf : Pg Gf := pg_full base

theorem pgc : PgC Gf := { f_pool := by kernel_rfl, f_draw := by kernel_rfl, f_pick := by kernel_rfl, f_common := by kernel_rfl, f_word := by kernel_rfl, f_made := by kernel_rfl, k_pool := by kernel_rfl, k_draw := by kernel_rfl, k_pick := by kernel_rfl, k_common := by kernel_rfl, k_word := by kernel_rfl, k_made := by kernel_rfl, f_rule := by kernel_rfl, f_at := by kernel_rfl, f_due := by kernel_rfl, k_rule := by kernel_rfl, k_at := by kernel_rfl, k_due := by kernel_rfl }
theorem hand : callK Gf 9 "_law_hand_right" [] [] = .ok (.bl true) [] := by kernel_rfl
theorem law_ok : LawOk prog 10 "law" := fun ns _ w hw => by
  rw [gt_eq, call_agr agr 10 "law" (by kernel_rfl)]
  exact c_law25 pgf pgc (by kernel_rfl) (by kernel_rfl) (by kernel_rfl) (by kernel_rfl) (k := 0) (by kernel_rfl) hand ns w hw
end Zl

set_option maxHeartbeats 0
namespace Zl
open PySem PySem.Spec L2 Zv
abbrev R : PySem.W.OpenRow := PySem.W.OpenLaw.row PySem.Challenge.rw_wholeshares_k25_unkind_by_looking
def looseN : List Str := (["_wall", "InputError", "NotARule", "InvalidOffset", "InvalidText", "InvalidCount", "InvalidHead", "MOST_HEAD", "DIGITS", "WIDE", "WIDE_DIGITS", "is_integer", "is_count", "is_number", "common_divisor", "reduced", "exact", "less", "plus", "over", "digits_of", "exact_text", "count_in", "exact_in", "is_offset", "first_bad_mark", "Rule", "rule_in", "check_rule", "check_rules"] : List Str) ++ (["turning_point", "first_unkind", "_law_pool", "_law_draw", "_law_pick", "_law_rule", "_law_at", "_law_common", "_law_word", "_law_made", "_law_near", "_law_due", "_law_hand_right", "_law_right"] : List Str)
abbrev hk : PySem.W.Hook := Zv.hookZ 5 prog.fa prog.fn prog.sn prog.exB
def ob (s : PySem.W.SharedT) : Zv.AlZ := Zv.obsZ 5 prog.fa prog.fn prog.sn prog.exB (HandSHeadRun.getT s)
theorem ob_eq (s : PySem.W.SharedT) : ob s = hk.obs s.abs := Zv.obsZ_eq (HandSHeadRun.getT_eq s)
theorem run (w : World) : HandSHeadRun.RunEq R (PySem.W.view R.prog [49]) hk ob 6000 looseN w := by
  intro os
  kernel_rfl
theorem prog_ok : prog.ok = true := by decide +kernel
end Zl
open PySem PySem.W PySem.Calls PyProof.Rows in
theorem PySem.Challenge.cw_wholeshares_k25_unkind_by_looking_holds : PySem.Challenge.rw_wholeshares_k25_unkind_by_looking.Holds := by
  w_on; o_law
  refine HandSHeadRun.head_any (r := OpenLaw.row PySem.Challenge.rw_wholeshares_k25_unkind_by_looking) (q := view (OpenLaw.row PySem.Challenge.rw_wholeshares_k25_unkind_by_looking).prog [49]) (H := Zl.hk) (ob := Zl.ob) (M := 6000) (loose := Zl.looseN) (d := HandSHeadRun.topDef (OpenLaw.row PySem.Challenge.rw_wholeshares_k25_unkind_by_looking).prog 49) (kwd := []) Zl.ob_eq
    (by kernel_rfl) (fun s => by kernel_rfl) Zl.run (by kernel_rfl) (by kernel_rfl) (by kernel_rfl) (by rfl) (by first | assumption | decide +kernel) (by decide +kernel) ⟨rfl, rfl, rfl, rfl, rfl, by decide +kernel⟩ ?hw ?hc
  case hw => w_witness2
  case hc =>
    refine Zv.walk_at (l := PySem.Challenge.rw_wholeshares_k25_unkind_by_looking) (n := 63) (CX := fun w => L2.CX (PySem.Challenge.rw_wholeshares_k25_unkind_by_looking).prog w) rfl (by decide) (by kernel_rfl) ?F (fun _ _ _ _ _ z => Zv.cx_no _ _ _ _ z)
    intro w mg fa h Y G hmg0
    obtain ⟨K, KX, c⟩ := Y
    have hmg : mg ("law" : PySem.Str) = some (.ref fa) := by
      have e : (HandSHeadRun.topDef (OpenLaw.row PySem.Challenge.rw_wholeshares_k25_unkind_by_looking).prog 49).name = ("law" : PySem.Str) := by kernel_rfl
      rw [← e]
      exact hmg0
    obtain ⟨sp, hs, hF⟩ := Zv.law_fn (p := Zl.prog) (P := (PySem.Challenge.rw_wholeshares_k25_unkind_by_looking).prog) (w := w) Zl.prog_ok KX G c (k := 10) Zl.law_ok ⟨⟨rfl, by decide, by decide⟩, rfl⟩ hmg (by decide +kernel)
    exact ⟨K, sp, KX, hs, hF⟩
